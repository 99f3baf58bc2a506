import PyProof.Rows.All
import Wide.All
import OpenK.AllK
import Wide.FinOn
import HandS.ForMost
import HandS.IsInst
import HandS.Flow
import HandS.WordsExc
import HandS.CallSlots
import HandS.Style
import HandS.TupAny
import HandS.TupLe
import HandS.Deep
import HandS.Small
import PyProof.NeKinds
import PyProof.EqKinds
import HandS.Exc
import HandS.ExcIs
import HandS.ExcField
import KE.GoesEnum
import HandS.Zip
import HandS.Rev
import HandS.Strs
import HandS.SetFor
import PyProof.SetRoads
import PyProof.Rows.SortShellAny
import PyProof.Rows.SortShellSt
import HandS.TryOnly
import HandS.More
import HandS.SortKw
import KE.DatumOrd
import HandS.ExcInit
import HandS.ExcOwn
import PyProof.TupleOfStr
import HandS.Conv
import HandS.Text
import HandS.RaiseMore
import KE.KDictDisplayH
import HandS.WordsDict
import HandS.DeepEq
import KE.KDictZip
import HandS.Iter
import PyProof.ListMulRoad
import PyProof.FactsAll.tuple_2
import HandS.Base
import HandS.Call
import HandS.List
import HandS.TupMul
import PyProof.ReprRoads
import HandS.Ends
import HandS.WideBits
import HandS.Comp
import PyProof.StrBlock2
import PySem.Challenge.RW_allcallers_k13_ends_and_bounds
set_option Elab.async false
set_option linter.all false
set_option maxRecDepth 100000
namespace D
open PySem L2
inductive U where
  | non | bl (b : Bool) | int (i : Int) | str (x : Str)
  | tup (us : List U) | lst (us : List U) | dct (ks us : List U)
  | ref (n : Nat) | ty (n : String) | scr (ns : List Int)
inductive Ob where
  | lst (us : List U) | dct (ks us : List U) | ins (c : Str) (fs : List (Str × U)) | obj (c : Str) (fs : List (Str × U)) | dcT (ks : List (List U)) (us : List U) | gone
abbrev Store := List Ob
/-- how a step ends -/
inductive Rs (α : Type) where
  | ok (a : α) (st : Store) | ex (c : Str) (us : List (Str × U)) (st : Store) | bad
def Rs.bind {α β : Type} (r : Rs α) (k : α → Store → Rs β) : Rs β := match r with
  | .ok a st => k a st
  | .ex c us st => .ex c us st
  | .bad => .bad
def Rs.of {α : Type} (o : Option α) (st : Store) : Rs α := match o with
  | some a => .ok a st
  | none => .bad
/-- a slot: nothing, a value, a list that this frame owns -/
inductive Sl where
  | un | val (u : U) | own (us : List U)
abbrev Env := List Sl
abbrev DE := Env → Store → Rs U
abbrev DA := Env → Store → Rs (List U)
abbrev DT := Env → Store → Rs Bool
def KL (K : PySem.W.Frag) (a : Addr) (xs : List V) : Prop :=
  ∃ (o : Obj) (its : Array Value) (n : Nat), K.lookup a = some o ∧ o.cls = .type "list" ∧ o.dict = none ∧ o.data = .seq its n ∧ its.size ≤ sizeLine ∧ Vals xs its.toList
def KT (K : PySem.W.Frag) (a : Addr) (xs : List V) : Prop :=
  ∃ (o : Obj) (its : Array Value) (n : Nat), K.lookup a = some o ∧ o.cls = .type "tuple" ∧ o.data = .seq its n ∧ its.size ≤ sizeLine ∧ Vals xs its.toList
/-- never written: W tells what may be -/
def LL (K : PySem.W.Frag) (W : Addr → Prop) (H : Hp) (a : Addr) (xs : List V) : Prop := H a = some (.lst xs) ∧ ¬ W a
/-- the script -/
def LS (K : PySem.W.Frag) (W : Addr → Prop) (H : Hp) (a : Addr) (xs : List V) : Prop := (Rd H a (.lst xs) ∧ ¬ W a) ∨ KL K a xs
def LT (K : PySem.W.Frag) (W : Addr → Prop) (H : Hp) (a : Addr) (xs : List V) : Prop := (Rd H a (.tup xs) ∧ ¬ W a) ∨ KT K a xs
theorem LL.sq {K : PySem.W.Frag} {W : Addr → Prop} {H : Hp} {a : Addr} {xs : List V} (h : LL K W H a xs) : SqL K H a xs := .inl (.inl h.1)
theorem LS.sq {K : PySem.W.Frag} {W : Addr → Prop} {H : Hp} {a : Addr} {xs : List V} (h : LS K W H a xs) : SqL K H a xs := h.elim (fun x => .inl x.1) .inr
theorem LT.sq {K : PySem.W.Frag} {W : Addr → Prop} {H : Hp} {a : Addr} {xs : List V} (h : LT K W H a xs) : SqT K H a xs := h.elim (fun x => .inl x.1) .inr
def kU : Key → U
  | .inl i => .int i
  | .inr x => .str x
/-- a dict that is never written: keys ints and texts, or tuples of such -/
def LD (W : Addr → Prop) (H : Hp) (a : Addr) (ks : List U) (vs : List V) : Prop := ¬ W a ∧
  ((∃ kvs : List (Key × V), Rd H a (.dK kvs) ∧ ks = kvs.map (fun p => kU p.1) ∧ vs = kvs.map (·.2)) ∨
   (∃ kvs : List (List Key × V), H a = some (.dT kvs) ∧ ks = kvs.map (fun p => U.tup (p.1.map kU)) ∧ vs = kvs.map (·.2) ∧ kvs ≠ []))
mutual
def Rep (K : PySem.W.Frag) (W : Addr → Prop) (io : List Addr) (H : Hp) : U → V → Prop
  | .non, v => v = .non
  | .bl b, v => v = .bl b
  | .int i, v => v = .int i
  | .str x, v => v = .str x
  | .ty n, v => v = .ty n
  | .ref n, v => ∃ a, io[n]? = some a ∧ v = .ref a
  | .tup us, v => ∃ a vs, v = .ref a ∧ LT K W H a vs ∧ Reps K W io H us vs
  | .lst us, v => ∃ a vs, v = .ref a ∧ LL K W H a vs ∧ Reps K W io H us vs
  | .dct ks us, v => ∃ a vs, v = .ref a ∧ LD W H a ks vs ∧ Reps K W io H us vs
  | .scr ns, v => ∃ a, v = .ref a ∧ LS K W H a (ns.map V.int)
def Reps (K : PySem.W.Frag) (W : Addr → Prop) (io : List Addr) (H : Hp) : List U → List V → Prop
  | [], vs => vs = []
  | u :: us, vs => ∃ v r, vs = v :: r ∧ Rep K W io H u v ∧ Reps K W io H us r
end
/-- what a way may turn: the store's own objects alone; what it adds is new -/
structure Ext (io : List Addr) (H : Hp) (io' : List Addr) (H' : Hp) : Prop where
  pre : ∃ more, io' = io ++ more ∧ ∀ a ∈ more, H a = none
  keep : ∀ a o, a ∉ io → H a = some o → H' a = some o
  stay : ∀ a o, H a = some o → ∃ o', H' a = some o'
def Wf (G : Addr → Prop) (io : List Addr) : Addr → Prop := fun a => G a ∨ a ∈ io
theorem Ext.refl (io : List Addr) (H : Hp) : Ext io H io H := ⟨⟨[], by simp, fun _ h => nomatch h⟩, fun _ _ _ h => h, fun _ o h => ⟨o, h⟩⟩
theorem Ext.same {io : List Addr} {H H' : Hp} (s : Same H H') : Ext io H io H' := ⟨⟨[], by simp, fun _ h => nomatch h⟩, fun a o _ h => s a o h, fun a o h => ⟨o, s a o h⟩⟩
theorem Ext.trans {io io1 io2 : List Addr} {H H1 H2 : Hp} (a : Ext io H io1 H1) (b : Ext io1 H1 io2 H2) : Ext io H io2 H2 := by
  have st := a.stay
  obtain ⟨m1, e1, f1⟩ := a.pre
  obtain ⟨m2, e2, f2⟩ := b.pre
  refine ⟨⟨m1 ++ m2, by rw [e2, e1, List.append_assoc], fun x hx => ?_⟩, fun x o hx h => ?_, fun x o h => let ⟨o1, e1⟩ := a.stay x o h; b.stay x o1 e1⟩
  · rcases List.mem_append.mp hx with h | h
    · exact f1 x h
    · have z := f2 x h
      cases q : H x with
      | none => rfl
      | some o =>
        obtain ⟨o', e⟩ := st x o q
        rw [e] at z; cases z
  · refine b.keep x o (fun z => ?_) (a.keep x o hx h)
    rw [e1] at z
    rcases List.mem_append.mp z with z | z
    · exact hx z
    · rw [f1 x z] at h; cases h
section
variable {K : PySem.W.Frag} {G : Addr → Prop} {io io' : List Addr} {H H' : Hp}
theorem Ext.io_get (e : Ext io H io' H') {n : Nat} {a : Addr} (h : io[n]? = some a) : io'[n]? = some a := by
  obtain ⟨m, rfl, _⟩ := e.pre
  rw [List.getElem?_append_left (List.getElem?_eq_some_iff.mp h).1]; exact h
theorem Ext.notW (e : Ext io H io' H') {a : Addr} {o : HO} (h : ¬ Wf G io a) (ho : H a = some o) : ¬ Wf G io' a := by
  obtain ⟨m, rfl, f⟩ := e.pre
  rintro (z | z)
  · exact h (.inl z)
  · rcases List.mem_append.mp z with z | z
    · exact h (.inr z)
    · rw [f a z] at ho; cases ho
theorem Ext.rd (e : Ext io H io' H') {a : Addr} {u : HO} (h : Rd H a u) (n : ¬ Wf G io a) : Rd H' a u ∧ ¬ Wf G io' a := by
  rcases h with h | ⟨o, h⟩
  · exact ⟨.inl (e.keep a _ (fun z => n (.inr z)) h), e.notW n h⟩
  · exact ⟨.inr ⟨o, e.keep a _ (fun z => n (.inr z)) h⟩, e.notW n h⟩
/-- what plain data stands still under -/
structure Mono (G : Addr → Prop) (io : List Addr) (H : Hp) (G' : Addr → Prop) (io' : List Addr) (H' : Hp) : Prop where
  pre : ∃ more, io' = io ++ more
  keep : ∀ a o, ¬ Wf G io a → H a = some o → H' a = some o ∧ ¬ Wf G' io' a
theorem Ext.mono (e : Ext io H io' H') : Mono G io H G io' H' := ⟨let ⟨m, q, _⟩ := e.pre; ⟨m, q⟩, fun a o n h => ⟨e.keep a o (fun z => n (.inr z)) h, e.notW n h⟩⟩
end
section
variable {K : PySem.W.Frag} {G G' : Addr → Prop} {io io' : List Addr} {H H' : Hp}
theorem Mono.rd (e : Mono G io H G' io' H') {a : Addr} {u : HO} (h : Rd H a u) (n : ¬ Wf G io a) : Rd H' a u ∧ ¬ Wf G' io' a := by
  rcases h with h | ⟨o, h⟩
  · exact ⟨.inl (e.keep a _ n h).1, (e.keep a _ n h).2⟩
  · exact ⟨.inr ⟨o, (e.keep a _ n h).1⟩, (e.keep a _ n h).2⟩
theorem LL.mono (e : Mono G io H G' io' H') {a : Addr} {xs : List V} (h : LL K (Wf G io) H a xs) : LL K (Wf G' io') H' a xs := e.keep a _ h.2 h.1
theorem LS.mono (e : Mono G io H G' io' H') {a : Addr} {xs : List V} (h : LS K (Wf G io) H a xs) : LS K (Wf G' io') H' a xs := h.elim (fun x => .inl (e.rd x.1 x.2)) .inr
theorem LT.mono (e : Mono G io H G' io' H') {a : Addr} {xs : List V} (h : LT K (Wf G io) H a xs) : LT K (Wf G' io') H' a xs := h.elim (fun x => .inl (e.rd x.1 x.2)) .inr
theorem LD.mono (e : Mono G io H G' io' H') {a : Addr} {ks : List U} {vs : List V} (h : LD (Wf G io) H a ks vs) : LD (Wf G' io') H' a ks vs := by
  obtain ⟨n, ⟨kvs, h1, h2⟩ | ⟨kvs, h1, h2⟩⟩ := h
  · exact ⟨(e.rd h1 n).2, .inl ⟨kvs, (e.rd h1 n).1, h2⟩⟩
  · exact ⟨(e.keep a _ n h1).2, .inr ⟨kvs, (e.keep a _ n h1).1, h2⟩⟩
mutual
theorem Rep.mono (e : Mono G io H G' io' H') : ∀ (u : U) (v : V), Rep K (Wf G io) io H u v → Rep K (Wf G' io') io' H' u v
  | .non, v, h => by unfold Rep at h ⊢; exact h
  | .bl b, v, h => by unfold Rep at h ⊢; exact h
  | .int i, v, h => by unfold Rep at h ⊢; exact h
  | .str x, v, h => by unfold Rep at h ⊢; exact h
  | .ty n, v, h => by unfold Rep at h ⊢; exact h
  | .ref n, v, h => by
    unfold Rep at h ⊢
    obtain ⟨a, h1, h2⟩ := h
    obtain ⟨m, rfl⟩ := e.pre
    exact ⟨a, by rw [List.getElem?_append_left (List.getElem?_eq_some_iff.mp h1).1]; exact h1, h2⟩
  | .tup us, v, h => by
    unfold Rep at h ⊢
    obtain ⟨a, vs, h1, h2, h3⟩ := h
    exact ⟨a, vs, h1, h2.mono e, Reps.mono e us vs h3⟩
  | .lst us, v, h => by
    unfold Rep at h ⊢
    obtain ⟨a, vs, h1, h2, h3⟩ := h
    exact ⟨a, vs, h1, h2.mono e, Reps.mono e us vs h3⟩
  | .dct ks us, v, h => by
    unfold Rep at h ⊢
    obtain ⟨a, vs, h1, h2, h3⟩ := h
    exact ⟨a, vs, h1, h2.mono e, Reps.mono e us vs h3⟩
  | .scr ns, v, h => by
    unfold Rep at h ⊢
    obtain ⟨a, h1, h2⟩ := h
    exact ⟨a, h1, h2.mono e⟩
theorem Reps.mono (e : Mono G io H G' io' H') : ∀ (us : List U) (vs : List V), Reps K (Wf G io) io H us vs → Reps K (Wf G' io') io' H' us vs
  | [], vs, h => by unfold Reps at h ⊢; exact h
  | u :: us, vs, h => by
    unfold Reps at h ⊢
    obtain ⟨v, r, h1, h2, h3⟩ := h
    exact ⟨v, r, h1, Rep.mono e u v h2, Reps.mono e us r h3⟩
end
theorem Rep.ext (e : Ext io H io' H') (u : U) (v : V) (h : Rep K (Wf G io) io H u v) : Rep K (Wf G io') io' H' u v := Rep.mono e.mono u v h
theorem Reps.ext (e : Ext io H io' H') (u : List U) (v : List V) (h : Reps K (Wf G io) io H u v) : Reps K (Wf G io') io' H' u v := Reps.mono e.mono u v h
end
section
variable {K : PySem.W.Frag} {W : Addr → Prop} {io : List Addr} {H : Hp}
theorem Reps.nil : Reps K W io H [] [] := by unfold Reps; rfl
theorem Reps.cons {u : U} {v : V} {us : List U} {vs : List V} (h : Rep K W io H u v) (t : Reps K W io H us vs) : Reps K W io H (u :: us) (v :: vs) := by unfold Reps; exact ⟨v, vs, rfl, h, t⟩
theorem Reps.uncons {u : U} {us : List U} {vs : List V} (h : Reps K W io H (u :: us) vs) : ∃ v r, vs = v :: r ∧ Rep K W io H u v ∧ Reps K W io H us r := by unfold Reps at h; exact h
theorem Reps.isNil {vs : List V} (h : Reps K W io H [] vs) : vs = [] := by unfold Reps at h; exact h
theorem Reps.length : ∀ {us : List U} {vs : List V}, Reps K W io H us vs → us.length = vs.length
  | [], _, h => by rw [h.isNil]; rfl
  | u :: us, _, h => by
    obtain ⟨v, r, rfl, _, t⟩ := h.uncons
    simp [Reps.length t]
theorem Reps.get : ∀ {us : List U} {vs : List V} {i : Nat} {u : U}, Reps K W io H us vs → us[i]? = some u → ∃ v, vs[i]? = some v ∧ Rep K W io H u v
  | [], _, _, _, _, e => by simp at e
  | u :: us, _, 0, _, h, e => by
    obtain ⟨v, r, rfl, q, t⟩ := h.uncons
    simp at e; subst e
    exact ⟨v, rfl, q⟩
  | u :: us, _, i + 1, _, h, e => by
    obtain ⟨v, r, rfl, q, t⟩ := h.uncons
    simpa using Reps.get t (by simpa using e)
theorem Reps.append : ∀ {us ws : List U} {vs xs : List V}, Reps K W io H us vs → Reps K W io H ws xs → Reps K W io H (us ++ ws) (vs ++ xs)
  | [], _, _, _, h, t => by rw [h.isNil]; exact t
  | u :: us, _, _, _, h, t => by
    obtain ⟨v, r, rfl, q, t'⟩ := h.uncons
    exact .cons q (Reps.append t' t)
theorem Reps.take : ∀ {us : List U} {vs : List V} (n : Nat), Reps K W io H us vs → Reps K W io H (us.take n) (vs.take n)
  | _, _, 0, _ => by simp; exact .nil
  | [], _, n + 1, h => by rw [h.isNil]; exact .nil
  | u :: us, _, n + 1, h => by
    obtain ⟨v, r, rfl, q, t⟩ := h.uncons
    exact .cons q (Reps.take n t)
theorem Reps.drop : ∀ {us : List U} {vs : List V} (n : Nat), Reps K W io H us vs → Reps K W io H (us.drop n) (vs.drop n)
  | _, _, 0, h => h
  | [], _, n + 1, h => by rw [h.isNil]; exact .nil
  | u :: us, _, n + 1, h => by
    obtain ⟨v, r, rfl, q, t⟩ := h.uncons
    exact Reps.drop n t
theorem Reps.ofInts : ∀ {ns : List Int} {vs : List V}, Reps K W io H (ns.map U.int) vs → vs = ns.map V.int
  | [], _, h => h.isNil
  | n :: ns, _, h => by
    obtain ⟨v, r, rfl, q, t⟩ := h.uncons
    unfold Rep at q
    rw [q, Reps.ofInts t]; rfl
theorem Reps.ints (ns : List Int) : Reps K W io H (ns.map U.int) (ns.map V.int) := by
  induction ns with
  | nil => exact .nil
  | cons n ns ih => exact .cons (by unfold Rep; rfl) ih
theorem Reps.ofBls : ∀ {ns : List Bool} {vs : List V}, Reps K W io H (ns.map U.bl) vs → vs = ns.map V.bl
  | [], _, h => h.isNil
  | n :: ns, _, h => by
    obtain ⟨v, r, rfl, q, t⟩ := h.uncons
    unfold Rep at q
    rw [q, Reps.ofBls t]; rfl
theorem Reps.ofStrs : ∀ {ns : List Str} {vs : List V}, Reps K W io H (ns.map U.str) vs → vs = ns.map V.str
  | [], _, h => h.isNil
  | n :: ns, _, h => by
    obtain ⟨v, r, rfl, q, t⟩ := h.uncons
    unfold Rep at q
    rw [q, Reps.ofStrs t]; rfl
theorem Reps.strs (ns : List Str) : Reps K W io H (ns.map U.str) (ns.map V.str) := by
  induction ns with
  | nil => exact .nil
  | cons n ns ih => exact .cons (by unfold Rep; rfl) ih
end
/-- no dict of an exception -/
def NX (o : HO) : Prop := ∀ ws, o ≠ .xd ws
theorem nx_lst {vs : List V} : NX (.lst vs) := fun _ z => nomatch z
/-- the class of a name -/
def clsAt (K : PySem.W.Frag) (c : Str) : Option Addr := match PySem.W.nsIn K mainGlobals c with
  | some (some (.ref C)) => some C
  | _ => none
/-- an exception that was caught -/
def exk (cls : Value) (d : Option Addr) (a : Addr) : HO := .ext fun h => ∃ (oe : Obj) (vs : Array Value), h.get? a = some oe ∧ Zc cls d oe ∧ oe.data = .fields vs
def flatE : U → Option V
  | .non => some .non
  | .bl b => some (.bl b)
  | .int i => some (.int i)
  | .str x => some (.str x)
  | _ => none
/-- the fields of an exception -/
def XD (fs : List (Str × U)) (d : Option Addr) (H : Hp) : Prop := (fs = [] ∧ d = none) ∨ ∃ dd ws, d = some dd ∧ H dd = some (.xd ws) ∧ fs.map (fun p => (p.1, flatE p.2)) = ws.map (fun p => (p.1, some p.2))
theorem XD.keep {fs : List (Str × U)} {d : Option Addr} {H H' : Hp} (h : XD fs d H) (k : ∀ dd ws, H dd = some (.xd ws) → H' dd = some (.xd ws)) : XD fs d H' := by
  rcases h with h | ⟨dd, ws, h1, h2, h3⟩
  · exact .inl h
  · exact .inr ⟨dd, ws, h1, k dd ws h2, h3⟩
/-- an object of the store -/
def ObRep (K : PySem.W.Frag) (W : Addr → Prop) (io : List Addr) (H : Hp) (a : Addr) : Ob → Prop
  | .lst us => ∃ vs, H a = some (.lst vs) ∧ Reps K W io H us vs
  | .dct ks us => ∃ kvs : List (Key × V), H a = some (.dK kvs) ∧ ks = kvs.map (fun p => kU p.1) ∧ Reps K W io H us (kvs.map (·.2))
  | .dcT ks us => ∃ kvs : List (List Key × V), H a = some (.dT kvs) ∧ ks = kvs.map (fun p => p.1.map kU) ∧ Reps K W io H us (kvs.map (·.2))
  | .obj c fs => ∃ C dx vs, clsAt K c = some C ∧ H a = some (.ins C dx ((fs.map (·.1)).zip vs)) ∧ Reps K W io H (fs.map (·.2)) vs
  | .ins c fs => ∃ C d, clsAt K c = some C ∧ H a = some (exk (.ref C) d a) ∧ XD fs d H
  | .gone => True
/-- the store lies in the heap; G: what is written by none of these ways, and never plain data -/
structure Ok (K : PySem.W.Frag) (G : Addr → Prop) (io : List Addr) (st : Store) (H : Hp) : Prop where
  nd : io.Nodup
  dj : ∀ a ∈ io, ¬ G a
  trk : ∀ a, Wf G io a → ∃ o, H a = some o ∧ NX o
  len : st.length = io.length
  obs : ∀ (n : Nat) (ob : Ob) (a : Addr), st[n]? = some ob → io[n]? = some a → ObRep K (Wf G io) io H a ob
def SlRep (K : PySem.W.Frag) (G : Addr → Prop) (io : List Addr) (H : Hp) : Sl → Option V → Prop
  | .un, _ => True
  | .val u, o => ∃ v, o = some v ∧ Rep K (Wf G io) io H u v
  | .own us, o => ∃ a vs, o = some (.ref a) ∧ G a ∧ H a = some (.lst vs) ∧ Reps K (Wf G io) io H us vs
structure EnvRep (K : PySem.W.Frag) (G : Addr → Prop) (io : List Addr) (H : Hp) (env : Env) (sg : St) : Prop where
  len : env.length = sg.length
  sl : ∀ (i : Nat) s o, env[i]? = some s → sg[i]? = some o → SlRep K G io H s o
section
variable {K : PySem.W.Frag} {G : Addr → Prop} {io io' : List Addr} {H H' : Hp} {st : Store} {env : Env} {sg : St}
theorem Ok.same (h : Ok K G io st H) (s : Same H H') : Ok K G io st H' := ⟨h.nd, h.dj, fun a q => let ⟨o, e, x⟩ := h.trk a q; ⟨o, s a o e, x⟩, h.len, fun n ob a e1 e2 => by
  have q := h.obs n ob a e1 e2
  cases ob with
  | lst us =>
    obtain ⟨vs, q1, q2⟩ := q
    exact ⟨vs, s _ _ q1, q2.ext (Ext.same s)⟩
  | dct ks us =>
    obtain ⟨kvs, q1, q2, q3⟩ := q
    exact ⟨kvs, s _ _ q1, q2, q3.ext (Ext.same s)⟩
  | dcT ks us =>
    obtain ⟨kvs, q1, q2, q3⟩ := q
    exact ⟨kvs, s _ _ q1, q2, q3.ext (Ext.same s)⟩
  | obj c fs =>
    obtain ⟨C, dx, vs, q1, q2, q3⟩ := q
    exact ⟨C, dx, vs, q1, s _ _ q2, q3.ext (Ext.same s)⟩
  | ins c fs =>
    obtain ⟨C, d, q1, q2, q3⟩ := q
    exact ⟨C, d, q1, s _ _ q2, q3.keep fun dd ws z => s _ _ z⟩
  | gone => trivial⟩
theorem Ok.fresh (h : Ok K G io st H) {p : Addr} (hp : H p = none) : ¬ Wf G io p := fun q => by
  obtain ⟨o, e, _⟩ := h.trk p q
  rw [hp] at e; cases e
theorem EnvRep.ext (h : EnvRep K G io H env sg) (dj : ∀ a ∈ io, ¬ G a) (e : Ext io H io' H') : EnvRep K G io' H' env sg := ⟨h.len, fun i s o e1 e2 => by
  have q := h.sl i s o e1 e2
  cases s with
  | un => trivial
  | val u =>
    obtain ⟨v, q1, q2⟩ := q
    exact ⟨v, q1, q2.ext e⟩
  | own us =>
    obtain ⟨a, vs, q1, q2, q3, q4⟩ := q
    exact ⟨a, vs, q1, q2, e.keep a _ (fun z => dj a z q2) q3, q4.ext e⟩⟩
end
/-- what is wanted of a way's end: a value, an exception -/
def Wants {A : Type} (K : PySem.W.Frag) (G : Addr → Prop) (io : List Addr) (H : Hp) (R : Store → List Addr → Hp → A → Prop) (XR : Str → List (Str × U) → Store → List Addr → Hp → Prop) : Rs A → Prop
  | .ok a st' => ∀ io' H', Ok K G io' st' H' → Ext io H io' H' → R st' io' H' a
  | .ex c us st' => ∀ io' H', Ok K G io' st' H' → Ext io H io' H' → XR c us st' io' H'
  | .bad => False
section
variable {A B : Type} {K : PySem.W.Frag} {G : Addr → Prop} {io io1 : List Addr} {H H1 : Hp} {R R' : Store → List Addr → Hp → A → Prop} {XR XR' : Str → List (Str × U) → Store → List Addr → Hp → Prop}
theorem Wants.imp {r : Rs A} (h : Wants K G io H R XR r) (f : ∀ st' io' H' a, Ok K G io' st' H' → Ext io H io' H' → R st' io' H' a → R' st' io' H' a)
    (g : ∀ c us st' io' H', Ok K G io' st' H' → Ext io H io' H' → XR c us st' io' H' → XR' c us st' io' H') : Wants K G io H R' XR' r := by
  cases r with
  | ok a st => exact fun io' H' o e => f st io' H' a o e (h io' H' o e)
  | ex c us st => exact fun io' H' o e => g c us st io' H' o e (h io' H' o e)
  | bad => exact h
theorem Wants.impR {r : Rs A} (h : Wants K G io H R XR r) (f : ∀ st' io' H' a, Ok K G io' st' H' → Ext io H io' H' → R st' io' H' a → R' st' io' H' a) : Wants K G io H R' XR r := h.imp f fun _ _ _ _ _ _ _ q => q
theorem Wants.later {r : Rs A} (h : Wants K G io H R XR r) (e : Ext io H io1 H1) : Wants K G io1 H1 R XR r := by
  cases r with
  | ok a st => exact fun io' H' o e' => h io' H' o (e.trans e')
  | ex c us st => exact fun io' H' o e' => h io' H' o (e.trans e')
  | bad => exact h
theorem Wants.bind {R : Store → List Addr → Hp → B → Prop} {r : Rs A} {k : A → Store → Rs B} (h : Wants K G io H R XR (r.bind k)) : Wants K G io H (fun st1 io1 H1 a => Wants K G io1 H1 R XR (k a st1)) XR r := by
  cases r with
  | ok a st => exact fun io' H' o e' => Wants.later (r := k a st) h e'
  | ex c us st => exact h
  | bad => exact h
theorem Wants.here {a : A} {st : Store} (h : Wants K G io H R XR (.ok a st)) (ok : Ok K G io st H) : R st io H a := h io H ok (Ext.refl _ _)
theorem Wants.hereS {a : A} {st : Store} (h : Wants K G io H R XR (.ok a st)) (ok : Ok K G io st H) (s : Same H H1) : R st io H1 a := h io H1 (ok.same s) (Ext.same s)
end
/-- an exception as the layer tells it (class value, own dict) -/
abbrev XS := Str → List (Str × U) → Value → Option Addr → Hp → Prop
/-- what is wanted of an exception at the slots sg -/
abbrev XW (xs : XS) (wx : WX) (sg : L2.St) : Str → List (Str × U) → Store → List Addr → Hp → Prop := fun c us _ _ H' => ∀ cls d, xs c us cls d H' → wx cls d sg H'
def tD (K : PySem.W.Frag) (xs : XS) (wx : WX) (f : DE) : TE := fun sg H Q => ∃ G io st env, Ok K G io st H ∧ EnvRep K G io H env sg ∧
  Wants K G io H (fun _ io' H' u => ∀ v, Rep K (Wf G io') io' H' u v → Q v H') (XW xs wx sg) (f env st)
def tDT (K : PySem.W.Frag) (xs : XS) (wx : WX) (f : DT) : TT := fun sg H Q => ∃ G io st env, Ok K G io st H ∧ EnvRep K G io H env sg ∧
  Wants K G io H (fun _ _ H' b => Q b H') (XW xs wx sg) (f env st)
def tDA (K : PySem.W.Frag) (xs : XS) (wx : WX) (f : DA) : TA := fun sg H Q => ∃ G io st env, Ok K G io st H ∧ EnvRep K G io H env sg ∧
  Wants K G io H (fun _ io' H' us => ∀ vs, Reps K (Wf G io') io' H' us vs → Q vs H') (XW xs wx sg) (f env st)
theorem pe_imp {X : Cx} {e : Expr} {t t' : TE} (h : PE X e t) (f : ∀ sg H Q, t' sg H Q → t sg H Q) : PE X e t' := ⟨fun pins s sg H Q I q => h.run pins s sg H Q I (f sg H Q q)⟩
theorem pt_imp {X : Cx} {e : Expr} {t t' : TT} (h : PT X e t) (f : ∀ sg H Q, t' sg H Q → t sg H Q) : PT X e t' := ⟨fun pins s sg H Q I q => h.run pins s sg H Q I (f sg H Q q)⟩
theorem pw_imp {X : Cx} {e : Expr} {t t' : TT} (h : PW X e t) (f : ∀ sg H Q, t' sg H Q → t sg H Q) : PW X e t' := ⟨fun wh pins s sg H Q I q => h.run wh pins s sg H Q I (f sg H Q q)⟩
theorem pa_imp {X : Cx} {e : List Expr} {t t' : TA} (h : PA X e t) (f : ∀ sg H Q, t' sg H Q → t sg H Q) : PA X e t' := ⟨fun pos pins s sg H Q I q => h.run pos pins s sg H Q I (f sg H Q q)⟩
theorem ps_imp {X : Cx} {e : Stmt} {t t' : TS} (h : PS X e t) (f : ∀ D sg H, t' D sg H → t D sg H) : PS X e t' := ⟨fun pins s sg H D I q => h.run pins s sg H D I (f D sg H q)⟩
theorem pss_imp {X : Cx} {e : List Stmt} {t t' : TS} (h : PSs X e t) (f : ∀ D sg H, t' D sg H → t D sg H) : PSs X e t' := ⟨fun pins s sg H D I q => h.run pins s sg H D I (f D sg H q)⟩
def cst (u : U) : DE := fun _ st => .ok u st
def var (i : Nat) : DE := fun env st => match env[i]? with
  | some (.val u) => .ok u st
  | _ => .bad
def bin (g : U → U → Option U) (a b : DE) : DE := fun env st => (a env st).bind fun u st1 => (b env st1).bind fun v st2 => Rs.of (g u v) st2
def anil : DA := fun _ st => .ok [] st
def acons (a : DE) (b : DA) : DA := fun env st => (a env st).bind fun u st1 => (b env st1).bind fun us st2 => .ok (u :: us) st2
def appN (g : List U → Option U) (a : DA) : DE := fun env st => (a env st).bind fun us st1 => Rs.of (g us) st1
def appU (g : List U → Store → Rs U) (a : DA) : DE := fun env st => (a env st).bind fun us st1 => g us st1
def tst (a : DE) : DT := fun env st => (a env st).bind fun u st1 => match u with
  | .bl b => .ok b st1
  | _ => .bad
def andT (a b : DT) : DT := fun env st => (a env st).bind fun c st1 => if c = true then b env st1 else .ok false st1
def orT (a b : DT) : DT := fun env st => (a env st).bind fun c st1 => if c = true then .ok true st1 else b env st1
def notT (a : DT) : DT := fun env st => (a env st).bind fun c st1 => .ok (!c) st1
def chain (g h : U → U → Option U) (a b c : DE) : DE := fun env st => (a env st).bind fun u st1 => (b env st1).bind fun v st2 => match g u v with
  | some (.bl k) => if k = true then (c env st2).bind fun w st3 => Rs.of (h v w) st3 else .ok (.bl false) st2
  | _ => .bad
end D
namespace D
open PySem L2
section
variable {X : Cx} {xs : XS} {wx : WX} {pos : Pos}
theorem d_cst {e : Expr} {v : V} {u : U} (h : PE X e (tC v)) (r : ∀ G io H, Rep X.K (Wf G io) io H u v) : PE X e (tD X.K xs wx (cst u)) := pe_imp h fun sg H Q q => by
  obtain ⟨G, io, st, env, ok, er, w⟩ := q
  exact w.here ok v (r _ _ _)
theorem d_int {i j} : PE X (.Constant (.int i) j pos) (tD X.K xs wx (cst (.int i))) := d_cst pe_int fun _ _ _ => by unfold Rep; rfl
theorem d_bl {i j} : PE X (.Constant (.bool i) j pos) (tD X.K xs wx (cst (.bl i))) := d_cst pe_bl fun _ _ _ => by unfold Rep; rfl
theorem d_non {j} : PE X (.Constant .none j pos) (tD X.K xs wx (cst .non)) := d_cst pe_non fun _ _ _ => by unfold Rep; rfl
theorem d_str {i j} : PE X (.Constant (.str i) j pos) (tD X.K xs wx (cst (.str i))) := d_cst pe_str fun _ _ _ => by unfold Rep; rfl
theorem Rs.of_bad {A : Type} {r : Rs A} {K G io H R XR} (h : Wants (A := A) K G io H R XR r) : r ≠ .bad := fun e => by rw [e] at h; exact h
theorem d_var (i : Nat) {x : Str} (hN : X.N[i]? = some x) (hv : Vis X.env.scope x) (hd : (x == ("__debug__" : Str)) = false := by decide) (hcd : (x == ("__classdict__" : Str)) = false := by decide) : PE X (.Name x pos) (tD X.K xs wx (var i)) :=
  pe_imp (pe_var (i := i) hN hv hd hcd) fun sg H Q q => by
    obtain ⟨G, io, st, env, ok, er, w⟩ := q
    unfold var at w
    split at w
    · rename_i u e
      have hi : i < sg.length := by rw [← er.len]; exact (List.getElem?_eq_some_iff.mp e).1
      obtain ⟨v, e1, r⟩ := er.sl i _ _ e (List.getElem?_eq_getElem hi)
      exact ⟨v, (List.getElem?_eq_getElem hi).trans (congrArg some e1), w.here ok v r⟩
    · exact w.elim
def P2 (K : PySem.W.Frag) (g : U → U → Option U) : R2 := fun x y H Q => ∃ G io st u1 u2 u, Ok K G io st H ∧ Rep K (Wf G io) io H u1 x ∧ Rep K (Wf G io) io H u2 y ∧ g u1 u2 = some u ∧
  ∀ v H', Same H H' → Rep K (Wf G io) io H' u v → Q v H'
def PN (K : PySem.W.Frag) (g : List U → Option U) : List V → Hp → VK → Prop := fun vs H Q => ∃ G io st us u, Ok K G io st H ∧ Reps K (Wf G io) io H us vs ∧ g us = some u ∧
  ∀ v H', Same H H' → Rep K (Wf G io) io H' u v → Q v H'
def P1 (K : PySem.W.Frag) (g : U → Option U) : V → Hp → VK → Prop := fun x H Q => ∃ G io st u1 u, Ok K G io st H ∧ Rep K (Wf G io) io H u1 x ∧ g u1 = some u ∧
  ∀ v H', Same H H' → Rep K (Wf G io) io H' u v → Q v H'
theorem Wants.pure {A : Type} {K G io H} {R : Store → List Addr → Hp → A → Prop} {XR} {o : Option A} {st : Store} (w : Wants K G io H R XR (Rs.of o st)) : ∃ a, o = some a ∧ Wants K G io H R XR (.ok a st) := by
  cases o with
  | none => exact w.elim
  | some a => exact ⟨a, rfl, w⟩
theorem bin_read {g : U → U → Option U} {fa fb : DE} {sg : L2.St} {H : Hp} {Q : VK} (h : tD X.K xs wx (bin g fa fb) sg H Q) : tOp (P2 X.K g) (tD X.K xs wx fa) (tD X.K xs wx fb) sg H Q := by
  obtain ⟨G, io, st, env, ok, er, w⟩ := h
  refine ⟨G, io, st, env, ok, er, w.bind.impR fun st1 io1 H1 u ok1 e1 w1 v rv => ?_⟩
  refine ⟨G, io1, st1, env, ok1, er.ext ok.dj e1, w1.bind.impR fun st2 io2 H2 u2 ok2 e2 w2 v2 rv2 => ?_⟩
  obtain ⟨a, ha, w3⟩ := w2.pure
  exact ⟨G, io2, st2, u, u2, a, ok2, rv.ext e2, rv2, ha, fun v' H' s r => w3.hereS ok2 s v' r⟩
theorem d_bin {op : Operator} {g : U → U → Option U} {a b : Expr} {fa fb : DE} (ho : OpR X (binaryOp op) (P2 X.K g)) (ha : PE X a (tD X.K xs wx fa)) (hb : PE X b (tD X.K xs wx fb)) : PE X (.BinOp a op b pos) (tD X.K xs wx (bin g fa fb)) :=
  pe_imp (pe_op ho ha hb) fun _ _ _ h => bin_read h
theorem d_cmp {op : CmpOp} {g : U → U → Option U} {a b : Expr} {fa fb : DE} (ho : OpR X (compareOp op) (P2 X.K g)) (ha : PE X a (tD X.K xs wx fa)) (hb : PE X b (tD X.K xs wx fb)) (hm : behindInMarks op b = false := by first | exact nomark _ | rfl) : PE X (.Compare a [op] [b] pos) (tD X.K xs wx (bin g fa fb)) :=
  pe_imp (pe_cmpR ho ha hb hm) fun _ _ _ h => bin_read h
theorem tst_read {f : DE} {t : TE} {sg : L2.St} {H : Hp} {Q : Bool → Hp → Prop} (h : tDT X.K xs wx (tst f) sg H Q) : tD X.K xs wx f sg H (fun x H1 => ∃ k, x = .bl k ∧ Q k H1) := by
  obtain ⟨G, io, st, env, ok, er, w⟩ := h
  refine ⟨G, io, st, env, ok, er, w.bind.impR fun st1 io1 H1 u ok1 e1 w1 v rv => ?_⟩
  cases u with
  | bl b => exact ⟨b, by unfold Rep at rv; exact rv, w1.here ok1⟩
  | _ => exact w1.elim
/-- a comparison as a test -/
theorem t_cmp {op : CmpOp} {g : U → U → Option U} {a b : Expr} {fa fb : DE} (ho : OpR X (compareOp op) (P2 X.K g)) (ha : PE X a (tD X.K xs wx fa)) (hb : PE X b (tD X.K xs wx fb)) (hm : behindInMarks op b = false := by first | exact nomark _ | rfl) :
    PT X (.Compare a [op] [b] pos) (tDT X.K xs wx (tst (bin g fa fb))) := pt_imp (pt_cmpR ho ha hb hm) fun sg H Q h => by
  obtain ⟨G, io, st, env, ok, er, w⟩ := h
  refine bin_read (Q := fun x H1 => ∃ k, x = .bl k ∧ Q k H1) ?_
  exact tst_read (t := tVar 0) ⟨G, io, st, env, ok, er, w⟩
theorem chain_read {g h : U → U → Option U} {fa fb fc : DE} {sg : L2.St} {H : Hp} {Q : VK} (hh : tD X.K xs wx (chain g h fa fb fc) sg H Q) : tChain (P2 X.K g) (P2 X.K h) (tD X.K xs wx fa) (tD X.K xs wx fb) (tD X.K xs wx fc) sg H Q := by
  obtain ⟨G, io, st, env, ok, er, w⟩ := hh
  refine ⟨G, io, st, env, ok, er, w.bind.impR fun st1 io1 H1 u ok1 e1 w1 v rv => ?_⟩
  refine ⟨G, io1, st1, env, ok1, er.ext ok.dj e1, w1.bind.impR fun st2 io2 H2 u2 ok2 e2 w2 v2 rv2 => ?_⟩
  have er2 := (er.ext ok.dj e1).ext ok1.dj e2
  split at w2
  · rename_i k eg
    refine ⟨G, io2, st2, u, u2, .bl k, ok2, rv.ext e2, rv2, eg, fun z H3 s3 r3 => ⟨k, by unfold Rep at r3; exact r3, ?_⟩⟩
    have e3 : Ext io2 H2 io2 H3 := Ext.same s3
    cases k with
    | true =>
      rw [if_pos rfl] at w2 ⊢
      refine ⟨G, io2, st2, env, ok2.same s3, er2.ext ok2.dj e3, (w2.later e3).bind.impR fun st4 io4 H4 u4 ok4 e4 w4 v4 rv4 => ?_⟩
      obtain ⟨a, ha, w5⟩ := w4.pure
      exact ⟨G, io4, st4, u2, u4, a, ok4, (rv2.ext e3).ext e4, rv4, ha, fun v' H' s r => w5.hereS ok4 s v' r⟩
    | false =>
      rw [if_neg Bool.false_ne_true] at w2 ⊢
      exact w2.hereS ok2 s3 _ (by unfold Rep; rfl)
  · exact w2.elim
theorem d_chain {op op' : CmpOp} {g h : U → U → Option U} {a b c : Expr} {fa fb fc : DE} (ho : OpR X (compareOp op) (P2 X.K g)) (ho' : OpR X (compareOp op') (P2 X.K h)) (ha : PE X a (tD X.K xs wx fa)) (hb : PE X b (tD X.K xs wx fb)) (hc : PE X c (tD X.K xs wx fc))
    (hm : lastMarks [op, op'] [b, c] = false := by with_unfolding_all rfl) : PE X (.Compare a [op, op'] [b, c] pos) (tD X.K xs wx (chain g h fa fb fc)) := pe_imp (pe_chain ho ho' ha hb hc hm) fun _ _ _ h => chain_read h
theorem t_chain {op op' : CmpOp} {g h : U → U → Option U} {a b c : Expr} {fa fb fc : DE} (ho : OpR X (compareOp op) (P2 X.K g)) (ho' : OpR X (compareOp op') (P2 X.K h)) (ha : PE X a (tD X.K xs wx fa)) (hb : PE X b (tD X.K xs wx fb)) (hc : PE X c (tD X.K xs wx fc))
    (hm : lastMarks [op, op'] [b, c] = false := by with_unfolding_all rfl) : PT X (.Compare a [op, op'] [b, c] pos) (tDT X.K xs wx (tst (chain g h fa fb fc))) := pt_imp (pt_chain ho ho' ha hb hc hm) fun sg H Q h => chain_read (tst_read (t := tVar 0) h)
/-- another expression as a test -/
theorem t_val {e : Expr} {f : DE} (h : PE X e (tD X.K xs wx f)) (he : ∀ whole, isTrue e X.env whole = (do let v ← whole; standAt e.pos; holding [v] (truthy v)) := by intro _; rfl) : PT X e (tDT X.K xs wx (tst f)) :=
  pt_imp (pt_val h he) fun sg H Q h => tst_read (t := tVar 0) h
theorem t_not {e : Expr} {f : DT} (h : PT X e (tDT X.K xs wx f)) : PT X (.UnaryOp .Not e pos) (tDT X.K xs wx (notT f)) := pt_imp (pt_not h) fun sg H Q h => by
  obtain ⟨G, io, st, env, ok, er, w⟩ := h
  exact ⟨G, io, st, env, ok, er, w.bind.impR fun st1 io1 H1 u ok1 e1 w1 => w1.here ok1⟩
variable {a b : Expr} {rest : List Expr}
theorem w_and1 {f : DT} (ha : PT X a (tDT X.K xs wx f)) : PW X (.BoolOp .And [a] pos) (tDT X.K xs wx f) := pw_and1 ha
theorem w_or1 {f : DT} (ha : PT X a (tDT X.K xs wx f)) : PW X (.BoolOp .Or [a] pos) (tDT X.K xs wx f) := pw_or1 ha
theorem w_and {f g : DT} (ha : PT X a (tDT X.K xs wx f)) (hb : PW X (.BoolOp .And (b :: rest) pos) (tDT X.K xs wx g)) : PW X (.BoolOp .And (a :: b :: rest) pos) (tDT X.K xs wx (andT f g)) := pw_imp (pw_and ha hb) fun sg H Q h => by
  obtain ⟨G, io, st, env, ok, er, w⟩ := h
  refine ⟨G, io, st, env, ok, er, w.bind.impR fun st1 io1 H1 c ok1 e1 w1 => ?_⟩
  cases c with
  | true => exact ⟨G, io1, st1, env, ok1, er.ext ok.dj e1, w1⟩
  | false => exact Wants.here (K := X.K) (G := G) (io := io1) (a := false) w1 ok1
theorem w_or {f g : DT} (ha : PT X a (tDT X.K xs wx f)) (hb : PW X (.BoolOp .Or (b :: rest) pos) (tDT X.K xs wx g)) : PW X (.BoolOp .Or (a :: b :: rest) pos) (tDT X.K xs wx (orT f g)) := pw_imp (pw_or ha hb) fun sg H Q h => by
  obtain ⟨G, io, st, env, ok, er, w⟩ := h
  refine ⟨G, io, st, env, ok, er, w.bind.impR fun st1 io1 H1 c ok1 e1 w1 => ?_⟩
  cases c with
  | false => exact ⟨G, io1, st1, env, ok1, er.ext ok.dj e1, w1⟩
  | true => exact Wants.here (K := X.K) (G := G) (io := io1) (a := true) w1 ok1
/-- and, or as values, of truths -/
def andV (a b : DE) : DE := fun env st => (a env st).bind fun u st1 => match u with
  | .bl c => if c = true then b env st1 else .ok (.bl false) st1
  | _ => .bad
def orV (a b : DE) : DE := fun env st => (a env st).bind fun u st1 => match u with
  | .bl c => if c = true then .ok (.bl true) st1 else b env st1
  | _ => .bad
def notV (a : DE) : DE := fun env st => (a env st).bind fun u st1 => match u with
  | .bl c => .ok (.bl (!c)) st1
  | _ => .bad
theorem d_one {op} {f : DE} (h : PE X a (tD X.K xs wx f)) : PE X (.BoolOp op [a] pos) (tD X.K xs wx f) := pe_one h
theorem d_and {f g : DE} (ha : PE X a (tD X.K xs wx f)) (hb : PE X (.BoolOp .And (b :: rest) pos) (tD X.K xs wx g)) : PE X (.BoolOp .And (a :: b :: rest) pos) (tD X.K xs wx (andV f g)) := pe_imp (pe_and ha hb) fun sg H Q h => by
  obtain ⟨G, io, st, env, ok, er, w⟩ := h
  refine ⟨G, io, st, env, ok, er, w.bind.impR fun st1 io1 H1 u ok1 e1 w1 v rv => ?_⟩
  cases u with
  | bl c =>
    unfold Rep at rv
    refine ⟨c, rv, ?_⟩
    cases c with
    | true => exact ⟨G, io1, st1, env, ok1, er.ext ok.dj e1, w1⟩
    | false => exact Wants.here (K := X.K) (G := G) (io := io1) (a := U.bl false) w1 ok1 _ (by unfold Rep; rfl)
  | _ => exact w1.elim
theorem d_not {f : DE} (ha : PE X a (tD X.K xs wx f)) : PE X (.UnaryOp .Not a pos) (tD X.K xs wx (notV f)) := pe_imp (pe_not ha) fun sg H Q h => by
  obtain ⟨G, io, st, env, ok, er, w⟩ := h
  refine ⟨G, io, st, env, ok, er, w.bind.impR fun st1 io1 H1 u ok1 e1 w1 v rv => ?_⟩
  cases u with
  | bl c =>
    unfold Rep at rv
    exact ⟨c, rv, Wants.here (K := X.K) (G := G) (io := io1) (a := U.bl (!c)) w1 ok1 _ (by unfold Rep; rfl)⟩
  | _ => exact w1.elim
def ifE (c : DT) (a b : DE) : DE := fun env st => (c env st).bind fun t st1 => if t = true then a env st1 else b env st1
theorem a_nil : PA X [] (tDA X.K xs wx anil) := pa_imp pa_nil fun sg H Q h => by
  obtain ⟨G, io, st, env, ok, er, w⟩ := h
  exact w.here ok _ .nil
theorem a_cons {e : Expr} {es : List Expr} {f : DE} {g : DA} (ha : PE X e (tD X.K xs wx f)) (hr : PA X es (tDA X.K xs wx g)) (hs : starEach (e :: es) X.env = (false, eval e X.env) :: starEach es X.env := by rfl) : PA X (e :: es) (tDA X.K xs wx (acons f g)) := pa_imp (pa_cons ha hr hs) fun sg H Q h => by
  obtain ⟨G, io, st, env, ok, er, w⟩ := h
  refine ⟨G, io, st, env, ok, er, w.bind.impR fun st1 io1 H1 u ok1 e1 w1 v rv => ?_⟩
  refine ⟨G, io1, st1, env, ok1, er.ext ok.dj e1, w1.bind.impR fun st2 io2 H2 us ok2 e2 w2 vs rvs => ?_⟩
  exact w2.here ok2 _ (.cons (rv.ext e2) rvs)
theorem args_read {f : DA} {g : List U → Option U} {sg : L2.St} {H : Hp} {Q : VK} (h : tD X.K xs wx (appN g f) sg H Q) : tDA X.K xs wx f sg H (fun vs H1 => PN X.K g vs H1 Q) := by
  obtain ⟨G, io, st, env, ok, er, w⟩ := h
  refine ⟨G, io, st, env, ok, er, w.bind.impR fun st1 io1 H1 us ok1 e1 w1 vs rvs => ?_⟩
  obtain ⟨u, hu, w2⟩ := w1.pure
  exact ⟨G, io1, st1, us, u, ok1, rvs, hu, fun v H' s r => w2.hereS ok1 s v r⟩
theorem same_upd {H : Hp} {p : Addr} {o : HO} (h : H p = none) : Same H (upd H p o) := fun b x e => by
  rw [upd_ne (ne_of_none e h)]
  exact e
/-- new plain data -/
theorem Ok.newT {K : PySem.W.Frag} {G : Addr → Prop} {io : List Addr} {st : Store} {H : Hp} (ok : Ok K G io st H) {p : Addr} (hp : H p = none) {us : List U} {vs : List V} (r : Reps K (Wf G io) io H us vs) : Rep K (Wf G io) io (upd H p (.tup vs)) (.tup us) (.ref p) := by
  unfold Rep
  exact ⟨p, vs, rfl, .inl ⟨.inl upd_same, ok.fresh hp⟩, r.ext (Ext.same (same_upd hp))⟩
theorem Ok.newL {K : PySem.W.Frag} {G : Addr → Prop} {io : List Addr} {st : Store} {H : Hp} (ok : Ok K G io st H) {p : Addr} (hp : H p = none) {us : List U} {vs : List V} (r : Reps K (Wf G io) io H us vs) : Rep K (Wf G io) io (upd H p (.lst vs)) (.lst us) (.ref p) := by
  unfold Rep
  exact ⟨p, vs, rfl, ⟨upd_same, ok.fresh hp⟩, r.ext (Ext.same (same_upd hp))⟩
def szT (us : List U) : Option U := if us.length ≤ sizeLine then some (.tup us) else none
def szL (us : List U) : Option U := if us.length ≤ sizeLine then some (.lst us) else none
theorem d_tup {es : List Expr} {x1} {f : DA} (h : PA X es (tDA X.K xs wx f)) : PE X (.Tuple es x1 pos) (tD X.K xs wx (appN szT f)) := pe_imp (pe_tup h) fun sg H Q q => by
  obtain ⟨G, io, st, env, ok, er, w⟩ := args_read q
  refine ⟨G, io, st, env, ok, er, w.impR fun st1 io1 H1 us ok1 e1 w1 vs rvs => ?_⟩
  obtain ⟨G', io', st', us', u, ok', rvs', hu, fin⟩ := w1 vs rvs
  unfold szT at hu
  split at hu
  · rename_i hz
    cases hu
    refine ⟨by rw [← rvs'.length]; exact hz, fun p hp => fin _ _ (same_upd hp) (ok'.newT hp rvs')⟩
  · cases hu
theorem d_lst {es : List Expr} {f : DA} (h : PA X es (tDA X.K xs wx f)) : PE X (.List es pos) (tD X.K xs wx (appN szL f)) := pe_imp (pe_lst h) fun sg H Q q => by
  obtain ⟨G, io, st, env, ok, er, w⟩ := args_read q
  refine ⟨G, io, st, env, ok, er, w.impR fun st1 io1 H1 us ok1 e1 w1 vs rvs => ?_⟩
  obtain ⟨G', io', st', us', u, ok', rvs', hu, fin⟩ := w1 vs rvs
  unfold szL at hu
  split at hu
  · rename_i hz
    cases hu
    refine ⟨by rw [← rvs'.length]; exact hz, fun p hp => fin _ _ (same_upd hp) (ok'.newL hp rvs')⟩
  · cases hu
theorem d_callB {id : String} {x : Str} {p : Pos} {e : Expr} {es : List Expr} {g : List U → Option U} {f : DA} (hc : CallR X (.builtin id) (PN X.K g)) (hg : Gl X x) (hm : X.mg x = none) (hv : bootBuiltins x = some (.builtin id)) (ha : PA X (e :: es) (tDA X.K xs wx f)) (hn : x ≠ "__name__" := by decide)
    (hdb : (x == ("__debug__" : Str)) = false := by decide) (he : starEach (e :: es) X.env = (false, eval e X.env) :: starEach es X.env := by rfl) (hpl : (backTo pos (starEach es X.env)).any (·.1) = false := by rfl) : PE X (.Call (.Name x p) (e :: es) [] pos) (tD X.K xs wx (appN g f)) :=
  pe_imp (pe_callB hc hg hm hv ha hn hdb he hpl) fun _ _ _ h => args_read h
theorem d_callT {T : String} {x : Str} {p : Pos} {e : Expr} {es : List Expr} {g : List U → Option U} {f : DA} (hc : CallR X (.type T) (PN X.K g)) (hg : Gl X x) (hm : X.mg x = none) (hv : bootBuiltins x = some (.type T)) (ha : PA X (e :: es) (tDA X.K xs wx f)) (hn : x ≠ "__name__" := by decide)
    (hdb : (x == ("__debug__" : Str)) = false := by decide) (he : starEach (e :: es) X.env = (false, eval e X.env) :: starEach es X.env := by rfl) (hpl : (backTo pos (starEach es X.env)).any (·.1) = false := by rfl) : PE X (.Call (.Name x p) (e :: es) [] pos) (tD X.K xs wx (appN g f)) :=
  pe_imp (pe_callTy hc hg hm hv ha hn hdb he hpl) fun _ _ _ h => args_read h
def spD (K : PySem.W.Frag) (xs : XS) (n : Nat) (g : List U → Store → Rs U) : Sp := fun vs H Q E => vs.length = n ∧ ∃ G io st us, Ok K G io st H ∧ Reps K (Wf G io) io H us vs ∧
  Wants K G io H (fun _ io' H' u => ∀ v, Rep K (Wf G io') io' H' u v → Q v H') (fun c us _ _ H' => ∀ cls d, xs c us cls d H' → E cls d H') (g us st)
theorem d_call {k : Nat} {f : Addr} {fd : FuncData} {ps : List Str} {n : Nat} {x : Str} {p : Pos} {e : Expr} {es : List Expr} {g : List U → Store → Rs U} {fa : DA} (tk : Takes X wx) (F : FnOk X.prog X.w X.K X.mg X.base (L2.CX X.prog X.w) k f fd ps (spD X.K xs n g)) (hr : Room k X.A) (hg : Gl X x) (hm : X.mg x = some (.ref f))
    (hk : PySem.W.keepIn X.K (.ref f) = true) (hb : Binds X.K fd ps []) (hgn : ∀ us st, us.length ≠ n → g us st = .bad) (ha : PA X (e :: es) (tDA X.K xs wx fa)) (hdb : (x == ("__debug__" : Str)) = false := by decide)
    (he : starEach (e :: es) X.env = (false, eval e X.env) :: starEach es X.env := by rfl) (hpl : (backTo pos (starEach es X.env)).any (·.1) = false := by rfl) : PE X (.Call (.Name x p) (e :: es) [] pos) (tD X.K xs wx (appU g fa)) :=
  pe_imp (pe_callSD (E := WE wx) (dvs := []) F hr hg hm hk hb .nil (fun s => passAt tk s) ha hdb he hpl) fun sg H Q h => by
    obtain ⟨G, io, st, env, ok, er, w⟩ := h
    refine ⟨G, io, st, env, ok, er, w.bind.impR fun st1 io1 H1 us ok1 e1 w1 vs rvs => ?_⟩
    have hn : us.length = n := Decidable.byContradiction fun z => by rw [hgn us st1 z] at w1; exact w1
    exact ⟨by rw [List.append_nil, ← rvs.length]; exact hn, G, io1, st1, us, ok1, by rw [List.append_nil]; exact rvs, w1⟩
end
end D
namespace D
open PySem L2
inductive Out where
  | nx (env : Env) (st : Store) | rt (u : U) (st : Store) | bk (env : Env) (st : Store) | ct (env : Env) (st : Store) | ex (c : Str) (us : List (Str × U)) (env : Env) (st : Store) | bad
abbrev DS := Env → Store → Out
def Rs.out {A : Type} (r : Rs A) (env : Env) (k : A → Store → Out) : Out := match r with
  | .ok a st => k a st
  | .ex c us st => .ex c us env st
  | .bad => .bad
def Out.seq (o : Out) (k : Env → Store → Out) : Out := match o with
  | .nx env st => k env st
  | o => o
/-- what the frame owns -/
def Ow (env : Env) (sg : L2.St) (a : Addr) : Prop := ∃ (i : Nat) (us : List U), env[i]? = some (.own us) ∧ sg[i]? = some (some (.ref a))
def Gs (F : Addr → Prop) (env : Env) (sg : L2.St) : Addr → Prop := fun a => F a ∨ Ow env sg a
structure Fr (K : PySem.W.Frag) (F : Addr → Prop) (io : List Addr) (st : Store) (env : Env) (sg : L2.St) (H : Hp) : Prop where
  ok : Ok K (Gs F env sg) io st H
  er : EnvRep K (Gs F env sg) io H env sg
  nF : ∀ a, Ow env sg a → ¬ F a
  dd : ∀ (i j : Nat) (a : Addr) (us us' : List U), env[i]? = some (.own us) → env[j]? = some (.own us') → sg[i]? = some (some (.ref a)) → sg[j]? = some (some (.ref a)) → i = j
structure ExtO (io : List Addr) (H : Hp) (O : Addr → Prop) (io' : List Addr) (H' : Hp) (O' : Addr → Prop) : Prop where
  pre : ∃ more, io' = io ++ more ∧ ∀ a ∈ more, H a = none ∨ O a
  keep : ∀ a o, a ∉ io → ¬ O a → H a = some o → H' a = some o
  stay : ∀ a o, H a = some o → ∃ o', H' a = some o'
  own : ∀ a, O' a → O a ∨ H a = none
section
variable {K : PySem.W.Frag} {F : Addr → Prop} {io io1 io2 io' : List Addr} {st st' : Store} {env env' : Env} {sg sg' : L2.St} {H H1 H2 H' : Hp} {O O1 O2 : Addr → Prop}
theorem Ext.o (e : Ext io H io' H') (O : Addr → Prop) : ExtO io H O io' H' O := ⟨let ⟨m, q1, q2⟩ := e.pre; ⟨m, q1, fun a h => .inl (q2 a h)⟩, fun a o h _ q => e.keep a o h q, e.stay, fun _ h => .inl h⟩
theorem ExtO.refl (io : List Addr) (H : Hp) (O : Addr → Prop) : ExtO io H O io H O := (Ext.refl io H).o O
theorem ExtO.trans (a : ExtO io H O io1 H1 O1) (b : ExtO io1 H1 O1 io2 H2 O2) : ExtO io H O io2 H2 O2 := by
  obtain ⟨m1, e1, f1⟩ := a.pre
  obtain ⟨m2, e2, f2⟩ := b.pre
  have back : ∀ x, H1 x = none → H x = none := fun x h => by
    cases q : H x with
    | none => rfl
    | some o =>
      obtain ⟨o', e⟩ := a.stay x o q
      rw [e] at h; cases h
  refine ⟨⟨m1 ++ m2, by rw [e2, e1, List.append_assoc], fun x hx => ?_⟩, fun x o hx hO h => ?_, fun x o h => let ⟨o1, e1⟩ := a.stay x o h; b.stay x o1 e1, fun x h => ?_⟩
  · rcases List.mem_append.mp hx with h | h
    · exact f1 x h
    · rcases f2 x h with z | z
      · exact .inl (back x z)
      · exact (a.own x z).symm
  · refine b.keep x o (fun z => ?_) (fun z => ?_) (a.keep x o hx hO h)
    · rw [e1] at z
      rcases List.mem_append.mp z with z | z
      · exact hx z
      · rcases f1 x z with y | y
        · rw [y] at h; cases h
        · exact hO y
    · rcases a.own x z with z | z
      · exact hO z
      · rw [z] at h; cases h
  · rcases b.own x h with h | h
    · exact a.own x h
    · exact .inr (back x h)
/-- plain data under a statement -/
theorem ExtO.mono (e : ExtO io H (Ow env sg) io' H' (Ow env' sg')) : Mono (Gs F env sg) io H (Gs F env' sg') io' H' := by
  obtain ⟨m, rfl, f⟩ := e.pre
  refine ⟨⟨m, rfl⟩, fun a o n h => ⟨e.keep a o (fun z => n (.inr z)) (fun z => n (.inl (.inr z))) h, ?_⟩⟩
  rintro ((z | z) | z)
  · exact n (.inl (.inl z))
  · rcases e.own a z with z | z
    · exact n (.inl (.inr z))
    · rw [z] at h; cases h
  · rcases List.mem_append.mp z with z | z
    · exact n (.inr z)
    · rcases f a z with y | y
      · rw [y] at h; cases h
      · exact n (.inl (.inr y))
theorem Ok.mono {G G' : Addr → Prop} (ok : Ok K G io st H) (sub : ∀ a, G' a → G a) : Ok K G' io st H := by
  have m : Mono G io H G' io H := ⟨⟨[], by simp⟩, fun a o n h => ⟨h, fun z => n (z.imp (sub a) id)⟩⟩
  refine ⟨ok.nd, fun a h z => ok.dj a h (sub a z), fun a h => ok.trk a (h.imp (sub a) id), ok.len, fun n ob a e1 e2 => ?_⟩
  have q := ok.obs n ob a e1 e2
  cases ob with
  | lst us => obtain ⟨vs, q1, q2⟩ := q; exact ⟨vs, q1, q2.mono m⟩
  | dct ks us => obtain ⟨kvs, q1, q2, q3⟩ := q; exact ⟨kvs, q1, q2, q3.mono m⟩
  | dcT ks us => obtain ⟨kvs, q1, q2, q3⟩ := q; exact ⟨kvs, q1, q2, q3.mono m⟩
  | obj c fs => obtain ⟨C, dx, vs, q1, q2, q3⟩ := q; exact ⟨C, dx, vs, q1, q2, q3.mono m⟩
  | ins _ _ => exact q
  | gone => trivial
theorem Fr.ext (f : Fr K F io st env sg H) (ok : Ok K (Gs F env sg) io' st' H') (e : Ext io H io' H') : Fr K F io' st' env sg H' := ⟨ok, f.er.ext f.ok.dj e, f.nF, f.dd⟩
theorem ow_set_val {i : Nat} {u : U} {o : Option V} {a : Addr} (h : Ow (env.set i (.val u)) (sg.set i o) a) : Ow env sg a := by
  obtain ⟨j, us, h1, h2⟩ := h
  by_cases hj : i = j
  · subst hj
    by_cases hl : i < env.length
    · rw [List.getElem?_set_self hl] at h1; cases h1
    · rw [List.getElem?_eq_none (by simpa using Nat.le_of_not_lt hl)] at h1; cases h1
  · rw [List.getElem?_set_ne hj] at h1 h2
    exact ⟨j, us, h1, h2⟩
theorem Fr.setVal (f : Fr K F io st env sg H) {i : Nat} {u : U} {v : V} (r : Rep K (Wf (Gs F env sg) io) io H u v) :
    Fr K F io st (env.set i (.val u)) (sg.set i (some v)) H ∧ ExtO io H (Ow env sg) io H (Ow (env.set i (.val u)) (sg.set i (some v))) := by
  have sub : ∀ a, Gs F (env.set i (.val u)) (sg.set i (some v)) a → Gs F env sg a := fun a h => h.imp id ow_set_val
  have ex : ExtO io H (Ow env sg) io H (Ow (env.set i (.val u)) (sg.set i (some v))) := ⟨⟨[], by simp, fun _ h => nomatch h⟩, fun _ _ _ _ h => h, fun _ o h => ⟨o, h⟩, fun a h => .inl (ow_set_val h)⟩
  have m := ex.mono (F := F)
  refine ⟨⟨f.ok.mono sub, ⟨by simp [f.er.len], fun j s o h1 h2 => ?_⟩, fun a h => f.nF a (ow_set_val h), fun j k a us us' h1 h2 h3 h4 => ?_⟩, ex⟩
  · by_cases hj : i = j
    · subst hj
      by_cases hl : i < env.length
      · rw [List.getElem?_set_self hl] at h1
        rw [List.getElem?_set_self (by rw [← f.er.len]; exact hl)] at h2
        cases h1; cases h2
        exact ⟨v, rfl, r.mono m⟩
      · rw [List.getElem?_eq_none (by simpa using Nat.le_of_not_lt hl)] at h1; cases h1
    · have g1 := h1; have g2 := h2
      rw [List.getElem?_set_ne hj] at h1 h2
      have q := f.er.sl j s o h1 h2
      cases s with
      | un => trivial
      | val u' => obtain ⟨v', q1, q2⟩ := q; exact ⟨v', q1, q2.mono m⟩
      | own us =>
        obtain ⟨a, vs, q1, q2, q3, q4⟩ := q
        subst q1
        exact ⟨a, vs, rfl, .inr ⟨j, us, g1, g2⟩, q3, q4.mono m⟩
  · have nj : ∀ (k : Nat) (us : List U), (env.set i (.val u))[k]? = some (.own us) → i ≠ k := fun k us h e => by
      subst e
      by_cases hl : i < env.length
      · rw [List.getElem?_set_self hl] at h; cases h
      · rw [List.getElem?_eq_none (by simpa using Nat.le_of_not_lt hl)] at h; cases h
    have n1 := nj j us h1
    have n2 := nj k us' h2
    rw [List.getElem?_set_ne n1] at h1 h3
    rw [List.getElem?_set_ne n2] at h2 h4
    exact f.dd j k a us us' h1 h2 h3 h4
/-- a slot gets a list of its own, at a place that nothing else knows -/
theorem Fr.setOwn (f : Fr K F io st env sg H) {i : Nat} {us : List U} {vs : List V} {a : Addr} (na : H a = none) (r : Reps K (Wf (Gs F env sg) io) io H us vs) (hi : i < env.length) :
    Fr K F io st (env.set i (.own us)) (sg.set i (some (.ref a))) (upd H a (.lst vs)) ∧ ExtO io H (Ow env sg) io (upd H a (.lst vs)) (Ow (env.set i (.own us)) (sg.set i (some (.ref a)))) := by
  have hi' : i < sg.length := by rw [← f.er.len]; exact hi
  have ow : ∀ b, Ow (env.set i (.own us)) (sg.set i (some (.ref a))) b → b = a ∨ Ow env sg b := fun b h => by
    obtain ⟨j, us', h1, h2⟩ := h
    by_cases hj : i = j
    · subst hj
      rw [List.getElem?_set_self hi'] at h2
      cases h2; exact .inl rfl
    · rw [List.getElem?_set_ne hj] at h1 h2
      exact .inr ⟨j, us', h1, h2⟩
  have owa : Ow (env.set i (.own us)) (sg.set i (some (.ref a))) a := ⟨i, us, List.getElem?_set_self hi, List.getElem?_set_self hi'⟩
  have nW : ¬ Wf (Gs F env sg) io a := f.ok.fresh na
  have ne : ∀ b o, H b = some o → b ≠ a := fun b o h => ne_of_none h na
  have s : Same H (upd H a (.lst vs)) := same_upd na
  have ex : ExtO io H (Ow env sg) io (upd H a (.lst vs)) (Ow (env.set i (.own us)) (sg.set i (some (.ref a)))) := ⟨⟨[], by simp, fun _ h => nomatch h⟩, fun b o _ _ h => s b o h, fun b o h => ⟨o, s b o h⟩, fun b h => (ow b h).elim (fun e => .inr (e ▸ na)) .inl⟩
  have m := ex.mono (F := F)
  refine ⟨⟨⟨f.ok.nd, fun b hb z => ?_, fun b h => ?_, f.ok.len, fun n ob b e1 e2 => ?_⟩, ⟨by simp [f.er.len], fun j sl o h1 h2 => ?_⟩, fun b h z => ?_, fun j k b us1 us2 h1 h2 h3 h4 => ?_⟩, ex⟩
  · rcases z with z | z
    · exact f.ok.dj b hb (.inl z)
    · rcases ow b z with e | z
      · subst e; exact nW (.inr hb)
      · exact f.ok.dj b hb (.inr z)
  · rcases h with (z | z) | z
    · obtain ⟨o, e, x⟩ := f.ok.trk b (.inl (.inl z)); exact ⟨o, s b o e, x⟩
    · rcases ow b z with e | z
      · subst e; exact ⟨_, upd_same, nx_lst⟩
      · obtain ⟨o, e, x⟩ := f.ok.trk b (.inl (.inr z)); exact ⟨o, s b o e, x⟩
    · obtain ⟨o, e, x⟩ := f.ok.trk b (.inr z); exact ⟨o, s b o e, x⟩
  · have q := f.ok.obs n ob b e1 e2
    cases ob with
    | lst us' => obtain ⟨vs', q1, q2⟩ := q; exact ⟨vs', s _ _ q1, q2.mono m⟩
    | dct ks us => obtain ⟨kvs, q1, q2, q3⟩ := q; exact ⟨kvs, s _ _ q1, q2, q3.mono m⟩
    | dcT ks us => obtain ⟨kvs, q1, q2, q3⟩ := q; exact ⟨kvs, s _ _ q1, q2, q3.mono m⟩
    | obj c fs => obtain ⟨C, dx, vs, q1, q2, q3⟩ := q; exact ⟨C, dx, vs, q1, s _ _ q2, q3.mono m⟩
    | ins c fs => obtain ⟨C, d, q1, q2, q3⟩ := q; exact ⟨C, d, q1, s _ _ q2, q3.keep fun dd ws z => s _ _ z⟩
    | gone => trivial
  · by_cases hj : i = j
    · subst hj
      rw [List.getElem?_set_self hi] at h1
      rw [List.getElem?_set_self hi'] at h2
      cases h1; cases h2
      exact ⟨a, vs, rfl, .inr owa, upd_same, r.mono m⟩
    · have g1 := h1; have g2 := h2
      rw [List.getElem?_set_ne hj] at h1 h2
      have q := f.er.sl j sl o h1 h2
      cases sl with
      | un => trivial
      | val u' => obtain ⟨v', q1, q2⟩ := q; exact ⟨v', q1, q2.mono m⟩
      | own us' =>
        obtain ⟨b, vs', q1, q2, q3, q4⟩ := q
        subst q1
        exact ⟨b, vs', rfl, .inr ⟨j, us', g1, g2⟩, s _ _ q3, q4.mono m⟩
  · rcases ow b h with e | h
    · subst e; exact nW (.inl (.inl z))
    · exact f.nF b h z
  · have one : ∀ (j : Nat) (us1 : List U), (env.set i (.own us))[j]? = some (.own us1) → (sg.set i (some (.ref a)))[j]? = some (some (.ref b)) → (i = j ∧ b = a) ∨ (i ≠ j ∧ env[j]? = some (.own us1) ∧ sg[j]? = some (some (.ref b))) := fun j us1 h1 h3 => by
      by_cases hj : i = j
      · subst hj
        rw [List.getElem?_set_self hi'] at h3
        cases h3; exact .inl ⟨rfl, rfl⟩
      · rw [List.getElem?_set_ne hj] at h1 h3
        exact .inr ⟨hj, h1, h3⟩
    rcases one j us1 h1 h3 with ⟨e1, e2⟩ | ⟨_, p1, p2⟩
    · rcases one k us2 h2 h4 with ⟨e3, _⟩ | ⟨_, p1, p2⟩
      · exact e1.symm.trans e3
      · subst e2
        exact (nW (.inl (.inr ⟨k, us2, p1, p2⟩))).elim
    · rcases one k us2 h2 h4 with ⟨_, e2⟩ | ⟨_, p3, p4⟩
      · subst e2
        exact (nW (.inl (.inr ⟨j, us1, p1, p2⟩))).elim
      · exact f.dd j k b us1 us2 p1 p3 p2 p4
/-- a list of the frame's own turns -/
theorem Fr.turnOwn (f : Fr K F io st env sg H) {i : Nat} {us us' : List U} {vs' : List V} {a : Addr} (h1 : env[i]? = some (.own us)) (h2 : sg[i]? = some (some (.ref a))) (r : Reps K (Wf (Gs F env sg) io) io H us' vs') :
    Fr K F io st (env.set i (.own us')) sg (upd H a (.lst vs')) ∧ ExtO io H (Ow env sg) io (upd H a (.lst vs')) (Ow (env.set i (.own us')) sg) := by
  have hi : i < env.length := (List.getElem?_eq_some_iff.mp h1).1
  have oa : Ow env sg a := ⟨i, us, h1, h2⟩
  have ow : ∀ b, Ow (env.set i (.own us')) sg b ↔ Ow env sg b := fun b => by
    constructor
    · rintro ⟨j, w, h3, h4⟩
      by_cases hj : i = j
      · subst hj; exact ⟨i, us, h1, h4⟩
      · rw [List.getElem?_set_ne hj] at h3
        exact ⟨j, w, h3, h4⟩
    · rintro ⟨j, w, h3, h4⟩
      by_cases hj : i = j
      · subst hj; exact ⟨i, us', List.getElem?_set_self hi, h4⟩
      · exact ⟨j, w, by rw [List.getElem?_set_ne hj]; exact h3, h4⟩
  have keep : ∀ b o, b ≠ a → H b = some o → (upd H a (.lst vs')) b = some o := fun b o n h => by rw [upd_ne n]; exact h
  have ex : ExtO io H (Ow env sg) io (upd H a (.lst vs')) (Ow (env.set i (.own us')) sg) := ⟨⟨[], by simp, fun _ h => nomatch h⟩, fun b o _ n h => keep b o (fun e => n (e ▸ oa)) h, fun b o h => by
    by_cases e : b = a
    · subst e; exact ⟨_, upd_same⟩
    · exact ⟨o, keep b o e h⟩, fun b h => .inl ((ow b).mp h)⟩
  have m := ex.mono (F := F)
  have nio : a ∉ io := fun z => f.ok.dj a z (.inr oa)
  have nxa : ∀ (dd : Addr) (ws : List (Str × V)), H dd = some (.xd ws) → dd ≠ a := fun dd ws z e => by
    subst e
    obtain ⟨o, e1, x⟩ := f.ok.trk dd (.inl (.inr oa))
    rw [z] at e1; cases e1; exact x ws rfl
  refine ⟨⟨⟨f.ok.nd, fun b hb z => f.ok.dj b hb (z.imp id (ow b).mp), fun b h => ?_, f.ok.len, fun n ob b e1 e2 => ?_⟩, ⟨by simp [f.er.len], fun j sl o g1 g2 => ?_⟩, fun b h z => f.nF b ((ow b).mp h) z, fun j k b us1 us2 g1 g2 g3 g4 => ?_⟩, ex⟩
  · obtain ⟨o, e, x⟩ := f.ok.trk b (h.imp (fun z => z.imp id (ow b).mp) id)
    by_cases hb : b = a
    · subst hb; exact ⟨_, upd_same, nx_lst⟩
    · exact ⟨o, keep b o hb e, x⟩
  · have q := f.ok.obs n ob b e1 e2
    have nb : b ≠ a := fun e => nio (e ▸ List.mem_of_getElem? e2)
    cases ob with
    | lst us' => obtain ⟨vs', q1, q2⟩ := q; exact ⟨vs', keep _ _ nb q1, q2.mono m⟩
    | dct ks us => obtain ⟨kvs, q1, q2, q3⟩ := q; exact ⟨kvs, keep _ _ nb q1, q2, q3.mono m⟩
    | dcT ks us => obtain ⟨kvs, q1, q2, q3⟩ := q; exact ⟨kvs, keep _ _ nb q1, q2, q3.mono m⟩
    | obj c fs => obtain ⟨C, dx, vs, q1, q2, q3⟩ := q; exact ⟨C, dx, vs, q1, keep _ _ nb q2, q3.mono m⟩
    | ins c fs => obtain ⟨C, d, q1, q2, q3⟩ := q; exact ⟨C, d, q1, keep _ _ nb q2, q3.keep fun dd ws z => keep _ _ (nxa dd ws z) z⟩
    | gone => trivial
  · by_cases hj : i = j
    · subst hj
      rw [List.getElem?_set_self hi] at g1
      rw [h2] at g2
      cases g1; cases g2
      exact ⟨a, vs', rfl, .inr ((ow a).mpr oa), upd_same, r.mono m⟩
    · have g1' := g1
      rw [List.getElem?_set_ne hj] at g1
      have q := f.er.sl j sl o g1 g2
      cases sl with
      | un => trivial
      | val u' => obtain ⟨v', q1, q2⟩ := q; exact ⟨v', q1, q2.mono m⟩
      | own w =>
        obtain ⟨b, vs1, q1, q2, q3, q4⟩ := q
        subst q1
        have nb : b ≠ a := fun e => hj (f.dd i j a us w h1 g1 h2 (e ▸ g2))
        exact ⟨b, vs1, rfl, .inr ⟨j, w, g1', g2⟩, keep _ _ nb q3, q4.mono m⟩
  · have back : ∀ (j : Nat) (w : List U), (env.set i (.own us'))[j]? = some (.own w) → ∃ w', env[j]? = some (.own w') := fun j w h => by
      by_cases hj : i = j
      · subst hj; exact ⟨us, h1⟩
      · rw [List.getElem?_set_ne hj] at h; exact ⟨w, h⟩
    obtain ⟨w1, e1⟩ := back j us1 g1
    obtain ⟨w2, e2⟩ := back k us2 g2
    exact f.dd j k b w1 w2 e1 e2 g3 g4
end
/-- what is wanted behind a statement -/
def WantsS (K : PySem.W.Frag) (F : Addr → Prop) (io : List Addr) (H : Hp) (O : Addr → Prop) (D : Ends) (xs : XS) (wx : WX) : Out → Prop
  | .nx env' st' => ∀ io' sg' H', Fr K F io' st' env' sg' H' → ExtO io H O io' H' (Ow env' sg') → D.nx sg' H'
  | .bk env' st' => ∀ io' sg' H', Fr K F io' st' env' sg' H' → ExtO io H O io' H' (Ow env' sg') → D.bk sg' H'
  | .ct env' st' => ∀ io' sg' H', Fr K F io' st' env' sg' H' → ExtO io H O io' H' (Ow env' sg') → D.ct sg' H'
  | .rt u st' => ∀ io' H' v, Ok K F io' st' H' → ExtO io H O io' H' (fun _ => False) → Rep K (Wf F io') io' H' u v → D.rt v H'
  | .ex c us env' st' => ∀ io' sg' H', Fr K F io' st' env' sg' H' → ExtO io H O io' H' (Ow env' sg') → ∀ cls d, xs c us cls d H' → wx cls d sg' H'
  | .bad => False
def tDS (K : PySem.W.Frag) (xs : XS) (wx : WX) (f : DS) : TS := fun D sg H => ∃ F io st env, Fr K F io st env sg H ∧ WantsS K F io H (Ow env sg) D xs wx (f env st)
section
variable {K : PySem.W.Frag} {F : Addr → Prop} {io io1 : List Addr} {st : Store} {env env1 : Env} {sg : L2.St} {H H1 : Hp} {O O1 : Addr → Prop} {D : Ends} {xs : XS} {wx : WX}
theorem WantsS.later {o : Out} (h : WantsS K F io H O D xs wx o) (e : ExtO io H O io1 H1 O1) : WantsS K F io1 H1 O1 D xs wx o := by
  cases o with
  | nx env' st' => exact fun io' sg' H' f e' => h io' sg' H' f (e.trans e')
  | bk env' st' => exact fun io' sg' H' f e' => h io' sg' H' f (e.trans e')
  | ct env' st' => exact fun io' sg' H' f e' => h io' sg' H' f (e.trans e')
  | rt u st' => exact fun io' H' v f e' => h io' H' v f (e.trans e')
  | ex c us env' st' => exact fun io' sg' H' f e' => h io' sg' H' f (e.trans e')
  | bad => exact h
/-- an expression within a statement -/
theorem WantsS.expr {A : Type} {r : Rs A} {k : A → Store → Out} (f : Fr K F io st env sg H) (h : WantsS K F io H (Ow env sg) D xs wx (r.out env k)) :
    Wants K (Gs F env sg) io H (fun st1 io1 H1 a => Fr K F io1 st1 env sg H1 ∧ WantsS K F io1 H1 (Ow env sg) D xs wx (k a st1)) (XW xs wx sg) r := by
  cases r with
  | ok a st1 => exact fun io' H' ok e => ⟨f.ext ok e, WantsS.later h (e.o _)⟩
  | ex c us st1 => exact fun io' H' ok e => h io' sg H' (f.ext ok e) (e.o _)
  | bad => exact h
end
section
variable {X : Cx} {xs : XS} {wx : WX} {pos : Pos}
def sNil : DS := fun env st => .nx env st
def sSeq (f g : DS) : DS := fun env st => (f env st).seq g
theorem ss_nil : PSs X [] (tDS X.K xs wx sNil) := pss_imp pss_nil fun D sg H h => by
  obtain ⟨F, io, st, env, f, w⟩ := h
  exact w io sg H f (ExtO.refl _ _ _)
theorem ss_cons {s : Stmt} {rest : List Stmt} {f g : DS} (h1 : PS X s (tDS X.K xs wx f)) (h2 : PSs X rest (tDS X.K xs wx g)) : PSs X (s :: rest) (tDS X.K xs wx (sSeq f g)) := pss_imp (pss_cons h1 h2) fun D sg H h => by
  obtain ⟨F, io, st, env, fr, w⟩ := h
  refine ⟨F, io, st, env, fr, ?_⟩
  unfold sSeq at w
  cases q : f env st with
  | nx env' st' =>
    rw [q] at w
    exact fun io' sg' H' fr' e' => ⟨F, io', st', env', fr', WantsS.later w e'⟩
  | _ => rw [q] at w; exact w
def sExpr (f : DE) : DS := fun env st => (f env st).out env fun _ st1 => .nx env st1
theorem s_expr {e : Expr} {f : DE} (he : PE X e (tD X.K xs wx f)) (hs : swapsWith e none pos.line X.env = Pure.pure false := by rfl) : PS X (.Expr e pos) (tDS X.K xs wx (sExpr f)) := ps_imp (ps_expr he hs) fun D sg H h => by
  obtain ⟨F, io, st, env, fr, w⟩ := h
  refine ⟨Gs F env sg, io, st, env, fr.ok, fr.er, (WantsS.expr fr w).impR fun st1 io1 H1 a ok1 e1 q v rv => ?_⟩
  exact q.2 io1 sg H1 q.1 (ExtO.refl _ _ _)
def sRet (f : DE) : DS := fun env st => (f env st).out env fun u st1 => .rt u st1
theorem s_ret {e : Expr} {f : DE} (he : PE X e (tD X.K xs wx f)) : PS X (.Return (some e) pos) (tDS X.K xs wx (sRet f)) := ps_imp (ps_ret he) fun D sg H h => by
  obtain ⟨F, io, st, env, fr, w⟩ := h
  refine ⟨Gs F env sg, io, st, env, fr.ok, fr.er, (WantsS.expr fr w).impR fun st1 io1 H1 a ok1 e1 q v rv => ?_⟩
  have m : Mono (Gs F env sg) io1 H1 F io1 H1 := ⟨⟨[], by simp⟩, fun a o n h => ⟨h, fun z => n (z.imp .inl id)⟩⟩
  exact q.2 io1 H1 v (q.1.ok.mono fun _ => .inl) ⟨⟨[], by simp, fun _ h => nomatch h⟩, fun _ _ _ _ h => h, fun _ o h => ⟨o, h⟩, fun _ h => h.elim⟩ (rv.mono m)
def sRetN : DS := fun env st => .rt .non st
theorem s_retN : PS X (.Return none pos) (tDS X.K xs wx sRetN) := ps_imp ps_retN fun D sg H h => by
  obtain ⟨F, io, st, env, fr, w⟩ := h
  exact w io H .non (fr.ok.mono fun _ => .inl) ⟨⟨[], by simp, fun _ h => nomatch h⟩, fun _ _ _ _ h => h, fun _ o h => ⟨o, h⟩, fun _ h => h.elim⟩ (by unfold Rep; rfl)
def sIf (c : DT) (f g : DS) : DS := fun env st => (c env st).out env fun b st1 => if b = true then f env st1 else g env st1
theorem s_if {c : Expr} {a b : List Stmt} {t : DT} {f g : DS} (hc : PT X c (tDT X.K xs wx t)) (ha : PSs X a (tDS X.K xs wx f)) (hb : PSs X b (tDS X.K xs wx g)) : PS X (.If c a b pos) (tDS X.K xs wx (sIf t f g)) := ps_imp (ps_if hc ha hb) fun D sg H h => by
  obtain ⟨F, io, st, env, fr, w⟩ := h
  refine ⟨Gs F env sg, io, st, env, fr.ok, fr.er, (WantsS.expr fr w).impR fun st1 io1 H1 b ok1 e1 q => ?_⟩
  cases b with
  | true => exact ⟨F, io1, st1, env, q.1, q.2⟩
  | false => exact ⟨F, io1, st1, env, q.1, q.2⟩
def sSet (i : Nat) (f : DE) : DS := fun env st => (f env st).out env fun u st1 => .nx (env.set i (.val u)) st1
theorem s_set {i : Nat} {x : Str} {e : Expr} {f : DE} {pos' : Pos} (hN : X.N.Nodup) (hi : X.N[i]? = some x) (hx : Loc X.env.scope x) (he : PE X e (tD X.K xs wx f)) (hs : swapsWith e (some (.Name x pos')) pos.line X.env = Pure.pure false := by rfl)
    (hf : X.fn x = true ∨ X.env.scope.names.lookup x = some .local := by first | exact .inl rfl | exact .inr rfl | assumption) : PS X (.Assign [.Name x pos'] e pos) (tDS X.K xs wx (sSet i f)) := ps_imp (ps_set hN hi hx he hs hf) fun D sg H h => by
  obtain ⟨F, io, st, env, fr, w⟩ := h
  refine ⟨Gs F env sg, io, st, env, fr.ok, fr.er, (WantsS.expr fr w).impR fun st1 io1 H1 u ok1 e1 q v rv => ?_⟩
  have z := q.1.setVal (i := i) rv
  exact q.2 io1 _ H1 z.1 z.2
/-- a new list -/
abbrev DL := Env → Store → Rs (List U)
def tDL (K : PySem.W.Frag) (xs : XS) (wx : WX) (f : DL) : TE := fun sg H Q => ∃ G io st env, Ok K G io st H ∧ EnvRep K G io H env sg ∧
  Wants K G io H (fun _ io' H' us => ∀ vs a, Reps K (Wf G io') io' H' us vs → H' a = none → Q (.ref a) (upd H' a (.lst vs))) (XW xs wx sg) (f env st)
def newL (f : DL) : DE := fun env st => (f env st).bind fun us st1 => .ok (.lst us) st1
theorem d_new {e : Expr} {f : DL} (h : PE X e (tDL X.K xs wx f)) : PE X e (tD X.K xs wx (newL f)) := pe_imp h fun sg H Q q => by
  obtain ⟨G, io, st, env, ok, er, w⟩ := q
  refine ⟨G, io, st, env, ok, er, w.bind.impR fun st1 io1 H1 us ok1 e1 w1 vs a rvs na => ?_⟩
  exact w1.hereS ok1 (same_upd na) _ (ok1.newL na rvs)
def szDL (f : DA) : DL := fun env st => (f env st).bind fun us st1 => if us.length ≤ sizeLine then .ok us st1 else .bad
theorem l_lst {es : List Expr} {f : DA} (h : PA X es (tDA X.K xs wx f)) : PE X (.List es pos) (tDL X.K xs wx (szDL f)) := pe_imp (pe_lst h) fun sg H Q q => by
  obtain ⟨G, io, st, env, ok, er, w⟩ := q
  refine ⟨G, io, st, env, ok, er, w.bind.impR fun st1 io1 H1 us ok1 e1 w1 vs rvs => ?_⟩
  split at w1
  · rename_i hz
    exact ⟨by rw [← rvs.length]; exact hz, fun p hp => w1.here ok1 vs p rvs hp⟩
  · exact w1.elim
def sOwn (i : Nat) (f : DL) : DS := fun env st => (f env st).out env fun us st1 => if i < env.length then .nx (env.set i (.own us)) st1 else .bad
theorem s_own {i : Nat} {x : Str} {e : Expr} {f : DL} {pos' : Pos} (hN : X.N.Nodup) (hi : X.N[i]? = some x) (hx : Loc X.env.scope x) (he : PE X e (tDL X.K xs wx f)) (hs : swapsWith e (some (.Name x pos')) pos.line X.env = Pure.pure false := by rfl)
    (hf : X.fn x = true ∨ X.env.scope.names.lookup x = some .local := by first | exact .inl rfl | exact .inr rfl | assumption) : PS X (.Assign [.Name x pos'] e pos) (tDS X.K xs wx (sOwn i f)) := ps_imp (ps_set hN hi hx he hs hf) fun D sg H h => by
  obtain ⟨F, io, st, env, fr, w⟩ := h
  refine ⟨Gs F env sg, io, st, env, fr.ok, fr.er, (WantsS.expr fr w).impR fun st1 io1 H1 us ok1 e1 q vs a rvs na => ?_⟩
  have q2 := q.2
  split at q2
  · rename_i hl
    have z := q.1.setOwn (i := i) na rvs hl
    exact q2 io1 _ _ z.1 z.2
  · exact q2.elim
def sApp (i : Nat) (f : DE) : DS := fun env st => match env[i]? with
  | some (.own us) => (f env st).out env fun u st1 => if us.length < sizeLine then .nx (env.set i (.own (us ++ [u]))) st1 else .bad
  | _ => .bad
theorem Fr.slot {K : PySem.W.Frag} {F : Addr → Prop} {io : List Addr} {st : Store} {env : Env} {sg : L2.St} {H : Hp} (f : Fr K F io st env sg H) {i : Nat} {us : List U} (h : env[i]? = some (.own us)) : ∃ a vs, sg[i]? = some (some (.ref a)) ∧ H a = some (.lst vs) ∧ Reps K (Wf (Gs F env sg) io) io H us vs := by
  have hi : i < sg.length := by rw [← f.er.len]; exact (List.getElem?_eq_some_iff.mp h).1
  obtain ⟨a, vs, q1, _, q3, q4⟩ := f.er.sl i _ _ h (List.getElem?_eq_getElem hi)
  exact ⟨a, vs, (List.getElem?_eq_getElem hi).trans (congrArg some q1), q3, q4⟩
theorem s_app {i : Nat} {x : Str} {e : Expr} {f : DE} {p1 p2 : Pos} (hN : X.N[i]? = some x) (hv : Vis X.env.scope x) (he : PE X e (tD X.K xs wx f)) (hd : (x == ("__debug__" : Str)) = false := by decide) (hcd : (x == ("__classdict__" : Str)) = false := by decide)
    (hfew : ((backTo pos (starEach [e] X.env)).all (fun x => !x.1) && (backToKw pos (keywordEach [] X.env)).all (fun x => x.1.isSome) && decide ([e].length + ([] : List Keyword).length + (if ([] : List Keyword).isEmpty then 0 else 1) < 30)) = true := by rfl)
    (hline : (p1.endLine == pos.line) = true := by rfl) (hs : starEach (e :: []) X.env = (false, eval e X.env) :: starEach [] X.env := by rfl) (hplain : (backTo pos (starEach [] X.env)).any (·.1) = false := by rfl)
    (hsw : swapsWith (.Call (.Attribute (.Name x p2) "append" p1) [e] [] pos) none pos.line X.env = Pure.pure false := by rfl) {pos2 : Pos} :
    PS X (.Expr (.Call (.Attribute (.Name x p2) "append" p1) [e] [] pos) pos2) (tDS X.K xs wx (sApp i f)) := by
  refine ps_imp (ps_expr (pe_bm PySem.F.plainAttrs_list PySem.F.slot_list_append PySem.F.type_list_append mt_append (pe_var (i := i) hN hv hd hcd) (pa_cons he pa_nil hs) (by rfl) hfew hline hs hplain) hsw) fun D sg H h => ?_
  obtain ⟨F, io, st, env, fr, w⟩ := h
  unfold sApp at w
  split at w
  · rename_i us q
    obtain ⟨a, vs, e1, e2, r⟩ := fr.slot q
    refine ⟨.ref a, e1, .inl ⟨rfl, vs, .inl (.inl e2)⟩, ?_⟩
    refine ⟨Gs F env sg, io, st, env, fr.ok, fr.er, (WantsS.expr fr w).impR fun st1 io1 H1 u ok1 ex1 z v rv => ?_⟩
    have z2 := z.2
    obtain ⟨a', vs', e1', e2', r'⟩ := z.1.slot q
    rw [e1] at e1'; cases e1'
    split at z2
    · rename_i hl
      refine ⟨a, vs', v, rfl, rfl, e2', by rw [← r'.length]; exact hl, ?_⟩
      have y := z.1.turnOwn q e1 (r'.append (.cons rv .nil))
      exact z2 io1 _ _ y.1 y.2
    · exact z2.elim
  · exact w.elim
end
end D
namespace D
open PySem L2
abbrev Tg := U → Option (List (Nat × U))
def setE (env : Env) (l : List (Nat × U)) : Env := l.foldl (fun e p => e.set p.1 (.val p.2)) env
def setS (sg : L2.St) (l : List (Nat × V)) : L2.St := l.foldl (fun e p => e.set p.1 (some p.2)) sg
def gD (K : PySem.W.Frag) (t : Tg) : TG := fun v sg H Q => ∃ G io u l, Rep K (Wf G io) io H u v ∧ t u = some l ∧ ∀ vs, Reps K (Wf G io) io H (l.map (·.2)) vs → Q (setS sg ((l.map (·.1)).zip vs)) H
theorem pg_imp {X : Cx} {e : Expr} {t t' : TG} (h : PG X e t) (f : ∀ v sg H Q, t' v sg H Q → t v sg H Q) : PG X e t' := ⟨fun pins s sg H v u Q I r q => h.run pins s sg H v u Q I r (f v sg H Q q)⟩
def tgN (i : Nat) : Tg := fun u => some [(i, u)]
def tgT (is : List Nat) : Tg := fun u => match u with
  | .tup us => if us.length = is.length then some (is.zip us) else none
  | _ => none
section
variable {X : Cx} {xs : XS} {wx : WX} {pos : Pos}
theorem g_name {i : Nat} {x : Str} (hN : X.N.Nodup) (hi : X.N[i]? = some x) (hx : Loc X.env.scope x) (hf : X.fn x = true ∨ X.env.scope.names.lookup x = some .local := by first | exact .inl rfl | exact .inr rfl | assumption) : PG X (.Name x pos) (gD X.K (tgN i)) :=
  pg_imp (pg_name hN hi hx hf) fun v sg H Q h => by
    obtain ⟨G, io, u, l, r, e, q⟩ := h
    cases e
    exact q [v] (.cons r .nil)
/-- several names -/
inductive GNames (X : Cx) : List Expr → List Nat → Prop
  | nil : GNames X [] []
  | cons {x : Str} {p : Pos} {i : Nat} {es : List Expr} {is : List Nat} (hi : X.N[i]? = some x) (hx : Loc X.env.scope x) (hf : X.fn x = true ∨ X.env.scope.names.lookup x = some .local) (t : GNames X es is) : GNames X (.Name x p :: es) (i :: is)
def gSet : List Nat → TGs
  | [] => gNil
  | i :: is => gCons (gName i) (gSet is)
theorem GNames.pgs (hN : X.N.Nodup) : ∀ {es : List Expr} {is : List Nat}, GNames X es is → PGs X es (gSet is) ∧ (assignEach es X.env).length = is.length ∧ (assignEach es X.env).findIdx? (·.1) = none
  | _, _, .nil => ⟨pgs_nil, rfl, rfl⟩
  | _, _, .cons hi hx hf t => by
    obtain ⟨h1, h2, h3⟩ := GNames.pgs hN t
    refine ⟨pgs_cons (pg_name hN hi hx hf) h1 rfl, ?_, ?_⟩
    · show (_ :: assignEach _ X.env).length = _
      simp [h2]
    · show List.findIdx? _ ((false, _) :: assignEach _ X.env) = none
      rw [List.findIdx?_cons]
      simp [h3]
theorem gSet_of {Q : L2.St → Hp → Prop} {H : Hp} : ∀ (is : List Nat) (vs : List V) (sg : L2.St), vs.length = is.length → Q (setS sg (is.zip vs)) H → gSet is vs sg H Q
  | [], vs, sg, hl, h => ⟨List.eq_nil_of_length_eq_zero (by simpa using hl), h⟩
  | i :: is, [], sg, hl, h => by simp at hl
  | i :: is, v :: vs, sg, hl, h => ⟨v, vs, rfl, gSet_of is vs (sg.set i (some v)) (by simpa using hl) h⟩
theorem zip_fst {α β : Type} : ∀ (a : List α) (b : List β), b.length = a.length → (a.zip b).map (·.1) = a
  | [], _, _ => by simp
  | x :: a, [], h => by simp at h
  | x :: a, y :: b, h => by simp [zip_fst a b (by simpa using h)]
theorem zip_snd {α β : Type} : ∀ (a : List α) (b : List β), b.length = a.length → (a.zip b).map (·.2) = b
  | [], b, h => by simp at h; simp [h]
  | x :: a, [], h => by simp at h
  | x :: a, y :: b, h => by simp [zip_snd a b (by simpa using h)]
theorem g_tup {es : List Expr} {k : Nat} {is : List Nat} (hc : X.calm = true) (hN : X.N.Nodup) (h : GNames X es is) : PG X (.Tuple es k pos) (gD X.K (tgT is)) := by
  obtain ⟨h1, h2, h3⟩ := GNames.pgs hN h
  refine pg_imp (pg_tup hc h1 h2 h3) fun v sg H Q q => ?_
  obtain ⟨G, io, u, l, r, e, q⟩ := q
  cases u with
  | tup us =>
    unfold tgT at e
    simp only at e
    split at e
    · rename_i hl
      cases e
      unfold Rep at r
      obtain ⟨a, vs, rfl, lt, rs⟩ := r
      have hv : vs.length = is.length := by rw [← rs.length]; exact hl
      rw [zip_fst _ _ hl, zip_snd _ _ hl] at q
      exact ⟨a, vs, rfl, lt.sq, hv, gSet_of is vs sg hv (q vs rs)⟩
    · cases e
  | _ => cases e
end
section
variable {K : PySem.W.Frag} {F G : Addr → Prop} {io : List Addr} {st : Store} {env : Env} {sg : L2.St} {H : Hp}
theorem EnvRep.setVal (e : EnvRep K G io H env sg) {i : Nat} {u : U} {v : V} (r : Rep K (Wf G io) io H u v) : EnvRep K G io H (env.set i (.val u)) (sg.set i (some v)) := ⟨by simp [e.len], fun j s o h1 h2 => by
  by_cases hj : i = j
  · subst hj
    by_cases hl : i < env.length
    · rw [List.getElem?_set_self hl] at h1
      rw [List.getElem?_set_self (by rw [← e.len]; exact hl)] at h2
      cases h1; cases h2
      exact ⟨v, rfl, r⟩
    · rw [List.getElem?_eq_none (by simpa using Nat.le_of_not_lt hl)] at h1; cases h1
  · rw [List.getElem?_set_ne hj] at h1 h2
    exact e.sl j s o h1 h2⟩
theorem EnvRep.setAll : ∀ (l : List (Nat × U)) (vs : List V) {env : Env} {sg : L2.St}, EnvRep K G io H env sg → Reps K (Wf G io) io H (l.map (·.2)) vs → EnvRep K G io H (setE env l) (setS sg ((l.map (·.1)).zip vs))
  | [], vs, _, _, e, r => by simpa [setE, setS] using e
  | p :: l, vs, _, _, e, r => by
    obtain ⟨v, vr, rfl, r1, r2⟩ := r.uncons
    exact EnvRep.setAll l vr (e.setVal r1) r2
theorem EnvRep.wipe1 (e : EnvRep K G io H env sg) (i : Nat) : EnvRep K G io H (env.set i .un) (sg.set i none) := ⟨by simp [e.len], fun j s o h1 h2 => by
  by_cases hj : i = j
  · subst hj
    by_cases hl : i < env.length
    · rw [List.getElem?_set_self hl] at h1
      cases h1
      trivial
    · rw [List.getElem?_eq_none (by simpa using Nat.le_of_not_lt hl)] at h1; cases h1
  · rw [List.getElem?_set_ne hj] at h1 h2
    exact e.sl j s o h1 h2⟩
def wipeE (env : Env) : List Nat → Env
  | [] => env
  | v :: vs => (wipeE env vs).set v .un
theorem EnvRep.wipe (e : EnvRep K G io H env sg) : ∀ vs : List Nat, EnvRep K G io H (wipeE env vs) (L2.wipe sg vs)
  | [] => e
  | v :: vs => (EnvRep.wipe e vs).wipe1 v
theorem Fr.setAll : ∀ (l : List (Nat × U)) (vs : List V) {env : Env} {sg : L2.St}, Fr K F io st env sg H → Reps K (Wf (Gs F env sg) io) io H (l.map (·.2)) vs →
    Fr K F io st (setE env l) (setS sg ((l.map (·.1)).zip vs)) H ∧ ExtO io H (Ow env sg) io H (Ow (setE env l) (setS sg ((l.map (·.1)).zip vs)))
  | [], vs, _, _, f, r => by simpa [setE, setS] using ⟨f, ExtO.refl _ _ _⟩
  | p :: l, vs, _, _, f, r => by
    obtain ⟨v, vr, rfl, r1, r2⟩ := r.uncons
    obtain ⟨f1, e1⟩ := f.setVal (i := p.1) r1
    obtain ⟨f2, e2⟩ := Fr.setAll l vr f1 (r2.mono (e1.mono (F := F)))
    exact ⟨f2, e1.trans e2⟩
end
structure Wk (K : PySem.W.Frag) (G : Addr → Prop) (J : It) (io : List Addr) (H : Hp) (us : List U) : Prop where
  go : ∀ (i : Nat) G' io' st' H', Ok K G' io' st' H' → Mono G io H G' io' H' → i < us.length → J.go i H' ∧ ∀ x H'', J.yld i H' x H'' → Same H' H'' ∧ ∃ u, us[i]? = some u ∧ Rep K (Wf G' io') io' H'' u x
  stop : ∀ (i : Nat) G' io' st' H', Ok K G' io' st' H' → Mono G io H G' io' H' → us.length ≤ i → J.stop i H'
def tI (K : PySem.W.Frag) (xs : XS) (wx : WX) (f : DL) : TI := fun sg H R => ∃ G io st env, Ok K G io st H ∧ EnvRep K G io H env sg ∧
  Wants K G io H (fun _ io' H' us => ∀ J, Wk K G J io' H' us → R J H') (XW xs wx sg) (f env st)
theorem pi_imp {X : Cx} {tg e : Expr} {t t' : TI} (h : PI X tg e t) (f : ∀ sg H R, t' sg H R → t sg H R) : PI X tg e t' := ⟨fun pins s sg H R I q => h.run pins s sg H R I (f sg H R q)⟩
theorem Mono.refl (G : Addr → Prop) (io : List Addr) (H : Hp) : Mono G io H G io H := (Ext.refl io H).mono
theorem Mono.trans {G G1 G2 : Addr → Prop} {io io1 io2 : List Addr} {H H1 H2 : Hp} (a : Mono G io H G1 io1 H1) (b : Mono G1 io1 H1 G2 io2 H2) : Mono G io H G2 io2 H2 := by
  obtain ⟨m1, rfl⟩ := a.pre
  obtain ⟨m2, rfl⟩ := b.pre
  exact ⟨⟨m1 ++ m2, by rw [List.append_assoc]⟩, fun x o n h => let ⟨h1, n1⟩ := a.keep x o n h; b.keep x o n1 h1⟩
/-- the items of a thing that is walked as it lies -/
def items : U → Option (List U)
  | .lst us => some us
  | .tup us => some us
  | .str x => some (x.cps.toList.map fun c => U.str ⟨#[c]⟩)
  | .scr ns => some (ns.map U.int)
  | _ => none
def itemsD (f : DE) : DL := fun env st => (f env st).bind fun u st1 => Rs.of (items u) st1
section
variable {K : PySem.W.Frag} {G : Addr → Prop} {io : List Addr} {H : Hp}
theorem wk_list {a : Addr} {us : List U} {vs : List V} (h : LL K (Wf G io) H a vs) (r : Reps K (Wf G io) io H us vs) : Wk K G (Itl K a) io H us := by
  refine ⟨fun i G' io' st' H' ok m hi => ?_, fun i G' io' st' H' ok m hi => ⟨vs, (h.mono m).sq, by rw [← r.length]; exact hi⟩⟩
  obtain ⟨v, hv, rv⟩ := r.get (List.getElem?_eq_getElem hi)
  refine ⟨⟨vs, v, (h.mono m).sq, hv⟩, fun x H'' y => ?_⟩
  obtain ⟨rfl, y⟩ := y
  have e := (y vs (h.mono m).sq).symm.trans hv
  cases e
  exact ⟨Same.refl _, _, List.getElem?_eq_getElem hi, rv.mono m⟩
theorem wk_scr {a : Addr} {ns : List Int} (h : LS K (Wf G io) H a (ns.map V.int)) : Wk K G (Itl K a) io H (ns.map U.int) := by
  have r : Reps K (Wf G io) io H (ns.map U.int) (ns.map V.int) := Reps.ints ns
  refine ⟨fun i G' io' st' H' ok m hi => ?_, fun i G' io' st' H' ok m hi => ⟨_, (h.mono m).sq, by rw [← r.length]; exact hi⟩⟩
  obtain ⟨v, hv, rv⟩ := r.get (List.getElem?_eq_getElem hi)
  refine ⟨⟨_, v, (h.mono m).sq, hv⟩, fun x H'' y => ?_⟩
  obtain ⟨rfl, y⟩ := y
  have e := (y _ (h.mono m).sq).symm.trans hv
  cases e
  exact ⟨Same.refl _, _, List.getElem?_eq_getElem hi, rv.mono m⟩
theorem wk_tup {a : Addr} {us : List U} {vs : List V} (h : LT K (Wf G io) H a vs) (r : Reps K (Wf G io) io H us vs) : Wk K G (Itt K a) io H us := by
  refine ⟨fun i G' io' st' H' ok m hi => ?_, fun i G' io' st' H' ok m hi => ⟨vs, (h.mono m).sq, by rw [← r.length]; exact hi⟩⟩
  obtain ⟨v, hv, rv⟩ := r.get (List.getElem?_eq_getElem hi)
  refine ⟨⟨vs, v, (h.mono m).sq, hv⟩, fun x H'' y => ?_⟩
  obtain ⟨rfl, y⟩ := y
  have e := (y vs (h.mono m).sq).symm.trans hv
  cases e
  exact ⟨Same.refl _, _, List.getElem?_eq_getElem hi, rv.mono m⟩
theorem wk_str (x : Str) : Wk K G (Its x) io H (x.cps.toList.map fun c => U.str ⟨#[c]⟩) := by
  refine ⟨fun i G' io' st' H' ok m hi => ?_, fun i G' io' st' H' ok m hi => ?_⟩
  · have hi' : i < x.cps.size := by simpa using hi
    refine ⟨hi', fun v H'' y => ?_⟩
    obtain ⟨rfl, c, hc, rfl⟩ := y
    refine ⟨Same.refl _, .str ⟨#[c]⟩, ?_, by unfold Rep; rfl⟩
    rw [List.getElem?_map, Array.getElem?_toList, hc]; rfl
  · show x.cps.size ≤ i
    simpa using hi
theorem wk_range (lo : Int) (n : Nat) : Wk K G (Itr lo n) io H ((List.range n).map fun i => U.int (lo + (i : Nat))) := by
  refine ⟨fun i G' io' st' H' ok m hi => ?_, fun i G' io' st' H' ok m hi => ?_⟩
  · have hi' : i < n := by simpa using hi
    refine ⟨hi', fun v H'' y => ?_⟩
    obtain ⟨rfl, rfl⟩ := y
    refine ⟨Same.refl _, .int (lo + i), ?_, by unfold Rep; rfl⟩
    simp [hi']
  · show n ≤ i
    simpa using hi
end
section
variable {X : Cx} {xs : XS} {wx : WX} {pos : Pos} {tg : Expr}
/-- pyIter by values -/
def ItR (X : Cx) (tg : Expr) (r : V → Hp → (It → Hp → Prop) → Prop) : Prop := ∀ (pins : List (Addr × Obj)) (s : Shared) (sg : L2.St) (H : Hp) (x : V) (v : Value) (R : It → Hp → Prop), Inv X pins sg H s → RelV x v → r x H R →
  wpAny (model X.prog X.w) X.A (pyIter v) (PIE X pins sg tg R) X.xe s
theorem it_list : ItR X tg (fun x H R => ∃ a, x = .ref a ∧ (∃ xs, SqL X.K H a xs) ∧ R (Itl X.K a) H) := by
  intro pins s1 sg H1 x v R I1 r1 q1
  obtain ⟨a, e, ⟨xs, hq⟩, q⟩ := q1
  subst e
  cases r1
  obtain ⟨its, rv, p, hz⟩ := I1.list hq
  refine wpAny_pyIter_list p.isList ?_
  refine ⟨s1.heap.objs.size, [s1.heap.objs.size], _, _, H1, rfl, I1.kept (t' := s1.toks) fun b o e => Heap.get?_push_of_some _ e, turn_list a _, ⟨_, Heap.get?_push_size _ rfl, rfl, rfl⟩, fun b hb => ?_, q⟩
  have e : b = s1.heap.objs.size := by simpa using hb
  subst e
  exact I1.fpOk (Nat.le_refl _) (I1.hok.fresh (Nat.le_refl _))
theorem it_tup : ItR X tg (fun x H R => ∃ a, x = .ref a ∧ (∃ xs, SqT X.K H a xs) ∧ R (Itt X.K a) H) := by
  intro pins s1 sg H1 x v R I1 r1 q1
  obtain ⟨a, e, ⟨xs, hq⟩, q⟩ := q1
  subst e
  cases r1
  obtain ⟨its, rv, p, hz⟩ := I1.tuple hq
  refine wpAny_pyIter_tuple (show s1.heap.IsTuple a its.toArray from p) ?_
  refine ⟨s1.heap.objs.size, [s1.heap.objs.size], _, _, H1, rfl, I1.kept (t' := s1.toks) fun b o e => Heap.get?_push_of_some _ e, turn_tuple a _, ⟨_, Heap.get?_push_size _ rfl, rfl, rfl⟩, fun b hb => ?_, q⟩
  have e : b = s1.heap.objs.size := by simpa using hb
  subst e
  exact I1.fpOk (Nat.le_refl _) (I1.hok.fresh (Nat.le_refl _))
theorem it_str : ItR X tg (fun v H R => ∃ x, v = .str x ∧ R (Its x) H) := by
  intro pins s1 sg H1 y v R I1 r1 q1
  obtain ⟨x, ex, q⟩ := q1
  subst ex
  obtain ⟨t, rfl⟩ := r1
  cases ha : x.cps.all (· < 128)
  · exact wpAny_pyIter_wide ha (pi_one (tk := s1.toks) I1 _ (turn_str _ x t "str_iterator" (.inr rfl)) ⟨_, Heap.get?_push_size _ rfl, rfl, rfl⟩ q)
  · exact wpAny_pyIter_ascii ha (pi_one (tk := s1.toks) I1 _ (turn_str _ x t "str_ascii_iterator" (.inl rfl)) ⟨_, Heap.get?_push_size _ rfl, rfl, rfl⟩ q)
/-- items of a value, plain -/
theorem it_items : ItR X tg (fun x H R => ∃ G io st u us, Ok X.K G io st H ∧ Rep X.K (Wf G io) io H u x ∧ items u = some us ∧ ∀ J, Wk X.K G J io H us → R J H) := by
  intro pins s sg H x v R I r q
  obtain ⟨G, io, st, u, us, ok, rp, e, q⟩ := q
  cases u with
  | lst ws =>
    cases e
    unfold Rep at rp
    obtain ⟨a, vs, rfl, l, rs⟩ := rp
    exact it_list pins s sg H _ v R I r ⟨a, rfl, ⟨vs, l.sq⟩, q _ (wk_list l rs)⟩
  | tup ws =>
    cases e
    unfold Rep at rp
    obtain ⟨a, vs, rfl, l, rs⟩ := rp
    exact it_tup pins s sg H _ v R I r ⟨a, rfl, ⟨vs, l.sq⟩, q _ (wk_tup l rs)⟩
  | str z =>
    cases e
    unfold Rep at rp
    subst rp
    exact it_str pins s sg H _ v R I r ⟨z, rfl, q _ (wk_str z)⟩
  | scr ns =>
    cases e
    unfold Rep at rp
    obtain ⟨a, rfl, l⟩ := rp
    exact it_list pins s sg H _ v R I r ⟨a, rfl, ⟨_, l.sq⟩, q _ (wk_scr l)⟩
  | _ => cases e
theorem i_seq {e : Expr} {f : DE} (h : PE X e (tD X.K xs wx f)) : PI X tg e (tI X.K xs wx (itemsD f)) := by
  refine ⟨fun pins s sg H R I q => ?_⟩
  obtain ⟨G, io, st, env, ok, er, w⟩ := q
  refine thn (h.run pins s sg H (fun x H1 => ∃ G io st u us, Ok X.K G io st H1 ∧ Rep X.K (Wf G io) io H1 u x ∧ items u = some us ∧ ∀ J, Wk X.K G J io H1 us → R J H1) I ?_) fun v s1 ⟨x, H1, I1, r1, q1⟩ => it_items pins s1 sg H1 x v R I1 r1 q1
  refine ⟨G, io, st, env, ok, er, w.bind.impR fun st1 io1 H1 u ok1 e1 w1 v rv => ?_⟩
  obtain ⟨us, hu, w2⟩ := w1.pure
  exact ⟨G, io1, st1, u, us, ok1, rv, hu, fun J k => w2.here ok1 J k⟩
/-- range(n), range(a, b) -/
def rng1 : List U → Option (List U)
  | [.int j] => if -(2 ^ 62) ≤ j ∧ j < 2 ^ 62 then some ((List.range j.toNat).map fun i => U.int (i : Nat)) else none
  | _ => none
def itA (g : List U → Option (List U)) (f : DA) : DL := fun env st => (f env st).bind fun us st1 => Rs.of (g us) st1
theorem i_range1 {a : Expr} {f : DA} {p : Pos} (hg : Gl X "range") (hm : X.mg "range" = none) (ha : PA X [a] (tDA X.K xs wx f)) (hs : starEach [a] X.env = [(false, eval a X.env)] := by rfl) : PI X tg (.Call (.Name "range" p) [a] [] pos) (tI X.K xs wx (itA rng1 f)) :=
  pi_imp (pi_range1 hg hm ha hs) fun sg H R q => by
    obtain ⟨G, io, st, env, ok, er, w⟩ := q
    refine ⟨G, io, st, env, ok, er, w.bind.impR fun st1 io1 H1 us ok1 e1 w1 vs rvs => ?_⟩
    obtain ⟨ws, hu, w2⟩ := w1.pure
    unfold rng1 at hu
    split at hu
    · rename_i j
      split at hu
      · rename_i hj
        cases hu
        have e : vs = [V.int j] := Reps.ofInts (ns := [j]) rvs
        subst e
        refine ⟨j, rfl, hj.1, hj.2, w2.here ok1 _ ?_⟩
        have z := wk_range (K := X.K) (G := G) (io := io1) (H := H1) 0 j.toNat
        simpa using z
      · cases hu
    · cases hu
def forL (t : Tg) (b : DS) : List U → Env → Store → Out
  | [], env, st => .nx env st
  | u :: us, env, st => match t u with
    | none => .bad
    | some l => match b (setE env l) st with
      | .nx env2 st2 => forL t b us env2 st2
      | .ct env2 st2 => forL t b us env2 st2
      | .bk env2 st2 => .nx env2 st2
      | .rt u st2 => .rt u st2
      | .ex c us env2 st2 => .ex c us env2 st2
      | .bad => .bad
def sFor (f : DL) (t : Tg) (b : DS) : DS := fun env st => (f env st).out env fun us st1 => forL t b us env st1
theorem s_for {iter : Expr} {body : List Stmt} {f : DL} {t : Tg} {b : DS} (hp : PassesOwn (model X.prog X.w) X.A X.env X.xe) (hc : X.calm = true) (hi : PI X tg iter (tI X.K xs wx f)) (hg : PG X tg (gD X.K t)) (hb : PSs X body (tDS X.K xs wx b))
    (hs : ∀ x, foldedSetIterable iter X.env x = Pure.pure x := by intro _; rfl) : PS X (.For tg iter body [] pos) (tDS X.K xs wx (sFor f t b)) := ps_imp (ps_for hp hc hi hg hb hs) fun D sg H h => by
  obtain ⟨F, io, st, env, fr, w⟩ := h
  refine ⟨Gs F env sg, io, st, env, fr.ok, fr.er, (WantsS.expr fr w).impR fun st1 io1 H1 us ok1 ex1 z J wk => ?_⟩
  refine ⟨fun i m sg' H' => ∃ io' st' env', Fr X.K F io' st' env' sg' H' ∧ ExtO io1 H1 (Ow env sg) io' H' (Ow env' sg') ∧ WantsS X.K F io' H' (Ow env' sg') D xs wx (forL t b (us.drop i) env' st') ∧ i + m = us.length,
    ⟨us.length, io1, st1, env, z.1, ExtO.refl _ _ _, z.2, by omega⟩, fun i m sg' H' hW => ?_⟩
  obtain ⟨io', st', env', f', e', w', hm⟩ := hW
  have mn := e'.mono (F := F)
  by_cases hi : i < us.length
  · obtain ⟨hgo, hy⟩ := wk.go i _ io' st' H' f'.ok mn hi
    refine .inr ⟨hgo, fun sg2 H2 => ∃ io' st' env', Fr X.K F io' st' env' sg2 H2 ∧ ExtO io1 H1 (Ow env sg) io' H2 (Ow env' sg2) ∧ WantsS X.K F io' H2 (Ow env' sg2) D xs wx (forL t b (us.drop (i + 1)) env' st') ∧ (i + 1) + (m - 1) = us.length,
      fun sg2 H2 hN => ⟨m - 1, by omega, hN⟩, fun x H'' y => ?_⟩
    obtain ⟨sm, u, hu, ru⟩ := hy x H'' y
    have f2 : Fr X.K F io' st' env' sg' H'' := f'.ext (f'.ok.same sm) (Ext.same sm)
    have e2 : ExtO io1 H1 (Ow env sg) io' H'' (Ow env' sg') := e'.trans ((Ext.same sm).o _)
    have w2 := WantsS.later w' ((Ext.same sm).o (Ow env' sg'))
    rw [List.drop_eq_getElem_cons hi] at w2
    have hu' : us[i] = u := Option.some.inj ((List.getElem?_eq_getElem hi).symm.trans hu)
    rw [hu'] at w2
    unfold forL at w2
    cases ht : t u with
    | none => rw [ht] at w2; exact w2.elim
    | some l =>
      rw [ht] at w2
      simp only at w2
      refine ⟨Gs F env' sg', io', u, l, ru, ht, fun vs rvs => ?_⟩
      obtain ⟨f3, e3⟩ := f2.setAll l vs rvs
      refine ⟨F, io', st', _, f3, ?_⟩
      cases hbo : b (setE env' l) st' with
      | nx env2 st2 =>
        rw [hbo] at w2
        exact fun io4 sg4 H4 f4 e4 => ⟨io4, st2, env2, f4, (e2.trans e3).trans e4, WantsS.later w2 (e3.trans e4), by omega⟩
      | ct env2 st2 =>
        rw [hbo] at w2
        exact fun io4 sg4 H4 f4 e4 => ⟨io4, st2, env2, f4, (e2.trans e3).trans e4, WantsS.later w2 (e3.trans e4), by omega⟩
      | bk env2 st2 =>
        rw [hbo] at w2
        exact fun io4 sg4 H4 f4 e4 => w2 io4 sg4 H4 f4 (e3.trans e4)
      | rt u2 st2 =>
        rw [hbo] at w2
        exact fun io4 H4 v4 f4 e4 => w2 io4 H4 v4 f4 (e3.trans e4)
      | ex c us2 env2 st2 =>
        rw [hbo] at w2
        exact fun io4 sg4 H4 f4 e4 => w2 io4 sg4 H4 f4 (e3.trans e4)
      | bad => rw [hbo] at w2; exact w2.elim
  · refine .inl ⟨wk.stop i _ io' st' H' f'.ok mn (Nat.le_of_not_lt hi), ?_⟩
    rw [List.drop_eq_nil_of_le (Nat.le_of_not_lt hi)] at w'
    exact w' io' sg' H' f' (ExtO.refl _ _ _)
end
end D
namespace D
open PySem L2
def noEx {A : Type} : Rs A → Rs A
  | .ex _ _ _ => .bad
  | r => r
theorem noEx_bind {A B : Type} (r : Rs A) (k : A → Store → Rs B) : noEx (r.bind k) = (noEx r).bind fun a st => noEx (k a st) := by cases r <;> rfl
def hid (H : Hp) (D : Addr) : Hp := fun b => if b = D then none else H b
theorem hid_same {H : Hp} {D : Addr} : hid H D D = none := by unfold hid; rw [if_pos rfl]
theorem hid_ne {H : Hp} {D b : Addr} (h : b ≠ D) : hid H D b = H b := by unfold hid; rw [if_neg h]
theorem hid_some {H : Hp} {D b : Addr} {o : HO} (h : hid H D b = some o) : b ≠ D ∧ H b = some o := by
  by_cases e : b = D
  · subst e; rw [hid_same] at h; cases h
  · rw [hid_ne e] at h; exact ⟨e, h⟩
theorem upd_hid {H : Hp} {D : Addr} {o : HO} (h : H D = some o) : upd (hid H D) D o = H := by
  funext b
  by_cases e : b = D
  · subst e; rw [upd_same, h]
  · rw [upd_ne e, hid_ne e]
theorem hid_upd {H : Hp} {D : Addr} {o : HO} : hid (upd H D o) D = hid H D := by
  funext b
  by_cases e : b = D
  · subst e; rw [hid_same, hid_same]
  · rw [hid_ne e, hid_ne e, upd_ne e]
theorem hid_none {H : Hp} {D : Addr} (h : H D = none) : hid H D = H := by
  funext b
  by_cases e : b = D
  · subst e; rw [hid_same, h]
  · rw [hid_ne e]
section
variable {K : PySem.W.Frag} {G : Addr → Prop} {io io' : List Addr} {H H' : Hp} {D : Addr} {st : Store} {env : Env} {sg : L2.St}
def Gd (G : Addr → Prop) (D : Addr) : Addr → Prop := fun a => G a ∨ a = D
theorem mono_enter : Mono G io (hid H D) (Gd G D) io H := ⟨⟨[], by simp⟩, fun a o n h => by
  obtain ⟨ne, e⟩ := hid_some h
  exact ⟨e, fun z => z.elim (fun z => z.elim (fun z => n (.inl z)) ne) fun z => n (.inr z)⟩⟩
theorem mono_leave : Mono (Gd G D) io H G io (hid H D) := ⟨⟨[], by simp⟩, fun a o n h => by
  have ne : a ≠ D := fun e => n (.inl (.inr e))
  exact ⟨by rw [hid_ne ne]; exact h, fun z => n (z.imp .inl id)⟩⟩
theorem ObRep.mono {G' : Addr → Prop} {a : Addr} {ob : Ob} (m : Mono G io H G' io' H') (keep : ∀ o, H a = some o → H' a = some o) (kx : ∀ dd ws, H dd = some (.xd ws) → H' dd = some (.xd ws)) (h : ObRep K (Wf G io) io H a ob) : ObRep K (Wf G' io') io' H' a ob := by
  cases ob with
  | lst us => obtain ⟨vs, q1, q2⟩ := h; exact ⟨vs, keep _ q1, q2.mono m⟩
  | dct ks us => obtain ⟨kvs, q1, q2, q3⟩ := h; exact ⟨kvs, keep _ q1, q2, q3.mono m⟩
  | dcT ks us => obtain ⟨kvs, q1, q2, q3⟩ := h; exact ⟨kvs, keep _ q1, q2, q3.mono m⟩
  | obj c fs => obtain ⟨C, dx, vs, q1, q2, q3⟩ := h; exact ⟨C, dx, vs, q1, keep _ q2, q3.mono m⟩
  | ins c fs => obtain ⟨C, d, q1, q2, q3⟩ := h; exact ⟨C, d, q1, keep _ q2, q3.keep kx⟩
  | gone => trivial
theorem Ok.enter {o : HO} (h : Ok K G io st (hid H D)) (hD : H D = some o) (hx : NX o) : Ok K (Gd G D) io st H := by
  refine ⟨h.nd, fun a ha z => ?_, fun a ha => ?_, h.len, fun n ob a e1 e2 => ?_⟩
  · rcases z with z | z
    · exact h.dj a ha z
    · subst z
      obtain ⟨o, e, _⟩ := h.trk a (.inr ha)
      exact (hid_some e).1 rfl
  · rcases ha with (z | z) | z
    · obtain ⟨o, e, x⟩ := h.trk a (.inl z); exact ⟨o, (hid_some e).2, x⟩
    · subst z; exact ⟨o, hD, hx⟩
    · obtain ⟨o, e, x⟩ := h.trk a (.inr z); exact ⟨o, (hid_some e).2, x⟩
  · exact (h.obs n ob a e1 e2).mono mono_enter (fun o q => (hid_some q).2) fun _ _ q => (hid_some q).2
theorem Ok.leave (h : Ok K (Gd G D) io st H) (hG : ¬ G D) : Ok K G io st (hid H D) := by
  have nD : D ∉ io := fun z => h.dj D z (.inr rfl)
  refine ⟨h.nd, fun a ha z => h.dj a ha (.inl z), fun a ha => ?_, h.len, fun n ob a e1 e2 => ?_⟩
  · obtain ⟨o, e, x⟩ := h.trk a (ha.imp .inl id)
    have ne : a ≠ D := fun z => by
      subst z
      exact ha.elim hG nD
    exact ⟨o, by rw [hid_ne ne]; exact e, x⟩
  · have ne : a ≠ D := fun z => by
      subst z
      exact nD (List.mem_of_getElem? e2)
    exact (h.obs n ob a e1 e2).mono mono_leave (fun o q => by rw [hid_ne ne]; exact q) fun dd ws q => by
      have nd : dd ≠ D := fun z => by
        subst z
        obtain ⟨o, e, x⟩ := h.trk dd (.inl (.inr rfl))
        rw [q] at e; cases e; exact x ws rfl
      rw [hid_ne nd]; exact q
theorem EnvRep.enter (h : EnvRep K G io (hid H D) env sg) : EnvRep K (Gd G D) io H env sg := ⟨h.len, fun i s o e1 e2 => by
  have q := h.sl i s o e1 e2
  cases s with
  | un => trivial
  | val u => obtain ⟨v, q1, q2⟩ := q; exact ⟨v, q1, q2.mono mono_enter⟩
  | own us => obtain ⟨a, vs, q1, q2, q3, q4⟩ := q; exact ⟨a, vs, q1, .inl q2, (hid_some q3).2, q4.mono mono_enter⟩⟩
theorem Ext.leave (e : Ext io H io' H') : Ext io (hid H D) io' (hid H' D) := by
  obtain ⟨m, q, f⟩ := e.pre
  refine ⟨⟨m, q, fun a ha => ?_⟩, fun a o ha h => ?_, fun a o h => ?_⟩
  · by_cases z : a = D
    · subst z; exact hid_same
    · rw [hid_ne z]; exact f a ha
  · obtain ⟨ne, h⟩ := hid_some h
    rw [hid_ne ne]; exact e.keep a o ha h
  · obtain ⟨ne, h⟩ := hid_some h
    obtain ⟨o', h'⟩ := e.stay a o h
    exact ⟨o', by rw [hid_ne ne]; exact h'⟩
end
theorem wipe_set_mem {i : Nat} {o : Option V} : ∀ (vs : List Nat) (sg : L2.St), i ∈ vs → L2.wipe (sg.set i o) vs = L2.wipe sg vs
  | [], _, h => by simp at h
  | v :: vs, sg, h => by
    unfold L2.wipe
    by_cases hm : i ∈ vs
    · rw [wipe_set_mem vs sg hm]
    · have e : v = i := by
        rcases List.mem_cons.mp h with e | e
        · exact e.symm
        · exact (hm e).elim
      subst e
      have c : ∀ (ws : List Nat) (s : L2.St), v ∉ ws → L2.wipe (s.set v o) ws = (L2.wipe s ws).set v o := by
        intro ws
        induction ws with
        | nil => intro s _; rfl
        | cons x ws ih =>
          intro s hx
          unfold L2.wipe
          rw [ih s fun z => hx (List.mem_cons_of_mem _ z), List.set_comm _ _ fun z => hx (by rw [z]; exact List.mem_cons_self)]
      rw [c vs sg hm, List.set_set]
theorem wipe_wipe (sg : L2.St) (vs : List Nat) : L2.wipe (L2.wipe sg vs) vs = L2.wipe sg vs := by
  have c : ∀ (ws : List Nat), (∀ x ∈ ws, x ∈ vs) → L2.wipe (L2.wipe sg ws) vs = L2.wipe sg vs := by
    intro ws
    induction ws with
    | nil => intro _; rfl
    | cons x ws ih =>
      intro hx
      show L2.wipe ((L2.wipe sg ws).set x none) vs = _
      rw [wipe_set_mem vs _ (hx x List.mem_cons_self), ih fun y hy => hx y (List.mem_cons_of_mem _ hy)]
  exact c vs fun _ h => h
theorem wipe_setS : ∀ (l : List (Nat × V)) (vs : List Nat) (sg : L2.St), (∀ p ∈ l, p.1 ∈ vs) → L2.wipe (setS sg l) vs = L2.wipe sg vs
  | [], _, _, _ => rfl
  | p :: l, vs, sg, h => by
    show L2.wipe (setS (sg.set p.1 (some p.2)) l) vs = _
    rw [wipe_setS l vs _ fun q hq => h q (List.mem_cons_of_mem _ hq), wipe_set_mem vs sg (h p List.mem_cons_self)]
def compL (t : Tg) (c : DT) (e : DE) : List U → Env → Store → Rs (List U)
  | [], _, st => .ok [] st
  | u :: us, env, st => match t u with
    | none => .bad
    | some l => (c (setE env l) st).bind fun b st1 => if b = true then (e (setE env l) st1).bind fun v st2 => (compL t c e us env st2).bind fun r st3 => .ok (v :: r) st3 else compL t c e us env st1
def compD (f : DL) (vs : List Nat) (t : Tg) (c : DT) (e : DE) : DL := fun env st => (f env st).bind fun us st1 => if us.length ≤ sizeLine then noEx (compL t c e us (wipeE env vs) st1) else .bad
def yesT : DT := fun _ st => .ok true st
abbrev wF : WX := fun _ _ _ _ => False
section
variable {X : Cx} {xs : XS} {wx : WX} {pos : Pos} {tg : Expr}
theorem ts_nil : PTs X [] (tDT X.K xs wx yesT) := ⟨fun pins s sg H Q I h => pts_nil.run pins s sg H Q I (by
  obtain ⟨G, io, st, env, ok, er, w⟩ := h
  exact w.here ok)⟩
theorem comp_read {f : DL} {vs : List Nat} {t : Tg} {c : DT} {e : DE} {sg : L2.St} {H : Hp} {Q : VK} (hvs : ∀ u l, t u = some l → ∀ p ∈ l, p.1 ∈ vs) (h : tDL X.K xs wx (compD f vs t c e) sg H Q) :
    tLc (tI X.K xs wx f) (gD X.K t) (tDT X.K xs wF c) (tD X.K xs wF e) vs sg H Q := by
  obtain ⟨G, io, st, env, ok, er, w⟩ := h
  refine ⟨G, io, st, env, ok, er, w.bind.impR fun st1 io1 H1 us ok1 e1 w1 J wk D hD => ?_⟩
  split at w1
  case isFalse => exact w1.elim
  rename_i hz
  have nG : ¬ Wf G io1 D := ok1.fresh hD
  have er1 : EnvRep X.K G io1 H1 (wipeE env vs) (L2.wipe sg vs) := (er.ext ok.dj e1).wipe vs
  have hH : hid (upd H1 D (.lst [])) D = H1 := by rw [hid_upd, hid_none hD]
  refine ⟨fun i m H' => ∃ io' st' acc accv, Ok X.K G io' st' (hid H' D) ∧ Ext io1 H1 io' (hid H' D) ∧ H' D = some (.lst accv) ∧ Reps X.K (Wf G io') io' (hid H' D) acc accv ∧ acc.length ≤ i ∧ i + m = us.length ∧
      Wants X.K G io' (hid H' D) (fun _ io'' H'' ws => ∀ vs a, Reps X.K (Wf G io'') io'' H'' (acc ++ ws) vs → H'' a = none → Q (.ref a) (upd H'' a (.lst vs))) (XW xs wx sg) (noEx (compL t c e (us.drop i) (wipeE env vs) st')),
    ⟨us.length, io1, st1, [], [], by rw [hH]; exact ok1, by rw [hH]; exact Ext.refl _ _, upd_same, .nil, by simp, by omega, ?_⟩, fun i m H' hW => ?_⟩
  · rw [hH]
    exact w1.impR fun st' io' H' ws _ _ q => q
  obtain ⟨io', st', acc, accv, ok', ex', hD', ra, hai, hm, w'⟩ := hW
  have nio : D ∉ io' := fun z => by
    obtain ⟨o, q, _⟩ := ok'.trk D (.inr z)
    exact (hid_some q).1 rfl
  have okE : Ok X.K (Gd G D) io' st' H' := ok'.enter hD' nx_lst
  have mE : Mono G io1 H1 (Gd G D) io' H' := ex'.mono.trans mono_enter
  have erE : EnvRep X.K (Gd G D) io' H' (wipeE env vs) (L2.wipe sg vs) := (er1.ext ok1.dj ex').enter
  by_cases hi : i < us.length
  · obtain ⟨hgo, hy⟩ := wk.go i _ io' st' H' okE mE hi
    refine .inr ⟨hgo, _, fun H2 hN => ⟨m - 1, by omega, hN⟩, fun x H'' y => ?_⟩
    obtain ⟨sm, u, hu, ru⟩ := hy x H'' y
    have ok2 := okE.same sm
    have ex2 : Ext io' H' io' H'' := Ext.same sm
    have er2 : EnvRep X.K (Gd G D) io' H'' (wipeE env vs) (L2.wipe sg vs) := erE.ext okE.dj ex2
    rw [List.drop_eq_getElem_cons hi] at w'
    have hu' : us[i] = u := Option.some.inj ((List.getElem?_eq_getElem hi).symm.trans hu)
    rw [hu'] at w'
    unfold compL at w'
    cases ht : t u with
    | none => rw [ht] at w'; exact w'.elim
    | some l =>
      rw [ht] at w'
      simp only at w'
      refine ⟨Gd G D, io', u, l, ru, ht, fun lvs rvs => ⟨?_, ?_⟩⟩
      · rw [wipe_setS _ _ _ fun p hp => ?_, wipe_wipe]
        have hp1 : p.1 ∈ l.map (·.1) := (List.of_mem_zip hp).1
        obtain ⟨q, hq, e⟩ := List.mem_map.mp hp1
        rw [← e]
        exact hvs u l ht q hq
      have er3 := EnvRep.setAll l lvs er2 rvs
      have w2 := w'.later (Ext.leave (D := D) ex2)
      rw [noEx_bind] at w2
      -- the test
      have lift : ∀ {A : Type} {R : Store → List Addr → Hp → A → Prop} {XR} {r : Rs A} {io' : List Addr} {H' : Hp}, Wants X.K G io' (hid H' D) R XR (noEx r) → Wants X.K (Gd G D) io' H' (fun st2 io2 H2 a => Ok X.K G io2 st2 (hid H2 D) ∧ Ext io' (hid H' D) io2 (hid H2 D) ∧ R st2 io2 (hid H2 D) a) (XW xs wF (setS (L2.wipe sg vs) ((l.map (·.1)).zip lvs))) r := by
        intro A R XR r io' H' h
        cases r with
        | ok a st2 => exact fun io2 H2 o2 e2 => ⟨o2.leave fun z => nG (.inl z), e2.leave, h io2 _ (o2.leave fun z => nG (.inl z)) e2.leave⟩
        | ex _ _ _ => exact h.elim
        | bad => exact h
      have d2 : H'' D = some (.lst accv) := sm _ _ hD'
      refine ⟨Gd G D, io', st', _, ok2, er3, (lift w2.bind).impR fun st3 io3 H3 b ok3 e3 q => ?_⟩
      have d3 : H3 D = some (.lst accv) := e3.keep D _ nio d2
      have nio3 : D ∉ io3 := fun z => ok3.dj D z (.inr rfl)
      have exA : Ext io1 H1 io3 (hid H3 D) := (ex'.trans (Ext.leave (D := D) ex2)).trans q.2.1
      obtain ⟨q1, q2, q3⟩ := q
      cases b with
      | false => exact ⟨io3, st3, acc, accv, q1, exA, d3, (ra.ext (Ext.leave (D := D) ex2)).ext q2, by omega, by omega, q3⟩
      | true =>
        simp only [if_true] at q3
        rw [noEx_bind] at q3
        refine ⟨Gd G D, io3, st3, _, ok3, er3.ext ok2.dj e3, (lift q3.bind).impR fun st4 io4 H4 v ok4 e4 q4 y ry => ?_⟩
        obtain ⟨p1, p2, p3⟩ := q4
        have d4 : H4 D = some (.lst accv) := e4.keep D _ nio3 d3
        have rA := ((ra.ext (Ext.leave (D := D) ex2)).ext q2).ext p2
        refine ⟨accv, d4, ?_, io4, st4, acc ++ [v], accv ++ [y], ?_, ?_, upd_same, ?_, by simp; omega, by omega, ?_⟩
        · rw [← ra.length]; omega
        · rw [hid_upd]; exact p1
        · rw [hid_upd]; exact exA.trans p2
        · rw [hid_upd]; exact rA.append (.cons (ry.mono mono_leave) .nil)
        · rw [hid_upd]
          rw [noEx_bind] at p3
          refine p3.bind.impR fun st5 io5 H5 ws ok5 e5 q5 => ?_
          have q6 := Wants.here (a := v :: ws) q5 ok5
          intro vs' a' r' n'
          exact q6 vs' a' (by rw [List.append_assoc] at r'; exact r') n'
  · refine .inl ⟨wk.stop i _ io' st' H' okE mE (Nat.le_of_not_lt hi), ?_⟩
    rw [List.drop_eq_nil_of_le (Nat.le_of_not_lt hi)] at w'
    have q := Wants.here (a := ([] : List U)) w' ok' accv D (by rw [List.append_nil]; exact ra) hid_same
    rw [upd_hid hD'] at q
    exact q
theorem l_comp {elt iter : Expr} {ifs : List Expr} {scope : Scope} {own : List (Str × Nat)} {f : DL} {t : Tg} {c : DT} {e : DE} (hc : X.calm = true) (hN : X.N.Nodup) (hi : PI X tg iter (tI X.K xs wx f)) (ok : BlkOk X.N X.env.scope scope own)
    (hvs : ∀ u l, t u = some l → ∀ p ∈ l, p.1 ∈ own.map (·.2))
    (hg : ∀ (s : Shared) (H : Hp) (C : Addr) (cl : List (Str × Addr)) (fp : List Addr), PG (X.blk s H scope (compEnvC scope cl C X.env) fp) tg (gD X.K t)) (ht : ∀ (s : Shared) (H : Hp) (C : Addr) (cl : List (Str × Addr)) (fp : List Addr), PTs (X.blk s H scope (compEnvC scope cl C X.env) fp) ifs (tDT X.K xs wF c))
    (he : ∀ (s : Shared) (H : Hp) (C : Addr) (cl : List (Str × Addr)) (fp : List Addr), PE (X.blk s H scope (compEnvC scope cl C X.env) fp) elt (tD X.K xs wF e)) (hs : ∀ x, foldedSetIterable iter X.env x = Pure.pure x := by intro _; rfl) :
    PE X (.ListComp elt [⟨tg, iter, ifs, 0⟩] scope pos) (tDL X.K xs wx (compD f (own.map (·.2)) t c e)) := pe_imp (pe_lc hc hN hi ok hg ht he hs) fun sg H Q h => comp_read hvs h
theorem s_setLcV {i : Nat} {y : Str} {py spos : Pos} {elt iter : Expr} {ifs : List Expr} {scope : Scope} {own : List (Str × Nat)} {f : DL} {t : Tg} {c : DT} {e : DE} (hc : X.calm = true) (hN : X.N.Nodup) (hy : X.N[i]? = some y) (hyl : X.env.scope.names.lookup y = some .local)
    (hsw : swapsWith (.ListComp elt [⟨tg, iter, ifs, 0⟩] scope pos) (some (.Name y py)) spos.line X.env = Pure.pure true) (hi : PI X tg iter (tI X.K xs wx f)) (ok : BlkOk X.N X.env.scope scope own)
    (hvs : ∀ u l, t u = some l → ∀ p ∈ l, p.1 ∈ own.map (·.2))
    (hg : ∀ (s : Shared) (H : Hp) (C : Addr) (cl : List (Str × Addr)) (fp : List Addr), PG (X.blk s H scope (compEnvC scope cl C X.env) fp) tg (gD X.K t)) (ht : ∀ (s : Shared) (H : Hp) (C : Addr) (cl : List (Str × Addr)) (fp : List Addr), PTs (X.blk s H scope (compEnvC scope cl C X.env) fp) ifs (tDT X.K xs wF c))
    (he : ∀ (s : Shared) (H : Hp) (C : Addr) (cl : List (Str × Addr)) (fp : List Addr), PE (X.blk s H scope (compEnvC scope cl C X.env) fp) elt (tD X.K xs wF e)) (hs : ∀ x, foldedSetIterable iter X.env x = Pure.pure x := by intro _; rfl) :
    PS X (.Assign [.Name y py] (.ListComp elt [⟨tg, iter, ifs, 0⟩] scope pos) spos) (tDS X.K xs wx (sSet i (newL (compD f (own.map (·.2)) t c e)))) := ps_imp (ps_setLc hc hN hy hyl hsw hi ok hg ht he hs) fun D sg H h => by
  obtain ⟨F, io, st, env, fr, w⟩ := h
  refine comp_read hvs ⟨Gs F env sg, io, st, env, fr.ok, fr.er, ?_⟩
  refine (WantsS.expr fr w).bind.impR fun st1 io1 H1 us ok1 e1 q vs a rvs na => ?_
  have q1 := Wants.hereS (a := U.lst us) q ok1 (same_upd (o := .lst vs) na)
  have z := q1.1.setVal (i := i) (ok1.newL na rvs)
  exact q1.2 io1 _ _ z.1 z.2
end
end D
namespace D
open PySem L2
def fin : Out → Rs U
  | .rt u st => .ok u st
  | .nx _ st => .ok .non st
  | .ex c us _ st => .ex c us st
  | _ => .bad
def env0 (m : Nat) (us : List U) : Env := us.map Sl.val ++ List.replicate (m - us.length) .un
def runB (m n : Nat) (body : DS) : List U → Store → Rs U := fun us st => if us.length = n then fin (body (env0 m us) st) else .bad
theorem runB_bad {m n : Nat} {body : DS} (us : List U) (st : Store) (h : us.length ≠ n) : runB m n body us st = .bad := by unfold runB; rw [if_neg h]
theorem env0_no {m : Nat} {us : List U} {i : Nat} {ws : List U} : (env0 m us)[i]? ≠ some (.own ws) := fun h => by
  unfold env0 at h
  rcases List.mem_append.mp (List.mem_of_getElem? h) with h | h
  · obtain ⟨_, _, e⟩ := List.mem_map.mp h; cases e
  · have := List.eq_of_mem_replicate h; cases this
theorem start_rep {K : PySem.W.Frag} {G : Addr → Prop} {io : List Addr} {H : Hp} {N : List Str} {us : List U} {vs : List V} (r : Reps K (Wf G io) io H us vs) (m : Nat) : EnvRep K G io H (env0 m us) (vs.map some ++ List.replicate (m - vs.length) none) := by
  have hl := r.length
  refine ⟨by unfold env0; simp [hl], fun i s o h1 h2 => ?_⟩
  unfold env0 at h1
  by_cases hi : i < us.length
  · rw [List.getElem?_append_left (by simpa using hi)] at h1
    rw [List.getElem?_append_left (by simpa [← hl] using hi)] at h2
    rw [List.getElem?_map, List.getElem?_eq_getElem hi] at h1
    obtain ⟨v, hv, rv⟩ := r.get (List.getElem?_eq_getElem hi)
    rw [List.getElem?_map, hv] at h2
    cases h1; cases h2
    exact ⟨v, rfl, rv⟩
  · rw [List.getElem?_append_right (by simpa using Nat.le_of_not_lt hi)] at h1
    have e := List.eq_of_mem_replicate (List.mem_of_getElem? h1)
    subst e
    trivial
section
variable {P : Program} {w : World} {K : PySem.W.Frag} {mg : Str → Option Value} {base : Heap} {xs : XS}
theorem fn_d {x qual : Str} {s : Stmt} {f : Addr} {fd : FuncData} {N ps : List Str} {k : Nat} {body : DS} (F : Fun K x qual s f fd) (S : FnScope N ps (defScope s))
    (hb : ∀ (cdv : Value) (A : Around) (outer : List PySem.Env) (sh : Shared) (H : Hp) (E : XK), Room k (A.deeper (PyProof.Rows.envOfC qual (defScope s) sh.heap.objs.size f cdv)) →
      PSs (cxOf (L2.CX P w) P w K mg base N qual (defScope s) f cdv A outer sh H E) (defBody s) (tDS K xs (fun cls d _ H => E cls d H) body)) :
    FnOk P w K mg base (L2.CX P w) (k + 1) f fd ps (spD K xs ps.length (runB N.length ps.length body)) := by
  refine F.okX S (fun vs H Q E h => h.1) (fun cdv A outer sh H vs Q E hr h => ⟨_, hb cdv A outer sh H E hr, ?_⟩)
  obtain ⟨hl, G, io, st, us, ok, r, w⟩ := h
  have no : ∀ a, ¬ Ow (env0 N.length us) (start N vs) a := fun a ⟨i, ws, h1, _⟩ => env0_no h1
  have sub : ∀ a, Gs G (env0 N.length us) (start N vs) a → G a := fun a h => h.elim id fun z => (no a z).elim
  have m : Mono G io H (Gs G (env0 N.length us) (start N vs)) io H := ⟨⟨[], by simp⟩, fun a o n h => ⟨h, fun z => n (z.imp (sub a) id)⟩⟩
  refine ⟨G, io, st, env0 N.length us, ⟨ok.mono sub, start_rep (N := N) (r.mono m) N.length, fun a h => (no a h).elim, fun i j a us us' h1 _ _ _ => (env0_no h1).elim⟩, ?_⟩
  unfold runB at w
  rw [if_pos (show us.length = ps.length by rw [r.length]; exact hl)] at w
  have toE : ∀ {io' H' O'}, ExtO io H (Ow (env0 N.length us) (start N vs)) io' H' O' → Ext io H io' H' := fun e => ⟨let ⟨m, q1, q2⟩ := e.pre; ⟨m, q1, fun a h => (q2 a h).elim id fun z => (no a z).elim⟩, fun a o h q => e.keep a o h (no a) q, e.stay⟩
  cases q : body (env0 N.length us) st with
  | nx env' st' => rw [q] at w; exact fun io' sg' H' f' e' => w io' H' (f'.ok.mono fun _ => .inl) (toE e') .non (by unfold Rep; rfl)
  | rt u st' => rw [q] at w; exact fun io' H' v o' e' rv => w io' H' o' (toE e') v rv
  | ex c us env' st' => rw [q] at w; exact fun io' sg' H' f' e' cls d hx => w io' H' (f'.ok.mono fun _ => .inl) (toE e') cls d hx
  | bk _ _ => rw [q] at w; exact w.elim
  | ct _ _ => rw [q] at w; exact w.elim
  | bad => rw [q] at w; exact w.elim
end
def add2 : U → U → Option U
  | .int i, .int j => some (.int (i + j))
  | .str x, .str y => if x.length + y.length ≤ sizeLine then some (.str (x ++ y)) else none
  | .tup x, .tup y => if x.length + y.length ≤ sizeLine then some (.tup (x ++ y)) else none
  | .lst x, .lst y => if x.length + y.length ≤ sizeLine then some (.lst (x ++ y)) else none
  | _, _ => none
def sub2 : U → U → Option U
  | .int i, .int j => some (.int (i - j))
  | _, _ => none
def smallI (i : Int) : Bool := decide (-(2 ^ 64) < i ∧ i < 2 ^ 64)
def mul2 : U → U → Option U
  | .int i, .int j => if smallI i || smallI j then some (.int (i * j)) else none
  | .lst x, .int k => if -(2 ^ 63) ≤ k ∧ k < 2 ^ 63 ∧ x.length * k.toNat ≤ sizeLine then some (.lst (List.replicate k.toNat x).flatten) else none
  | _, _ => none
def mod2 : U → U → Option U
  | .int i, .int j => if 0 < j then some (.int (i % j)) else none
  | _, _ => none
def fdiv2 : U → U → Option U
  | .int i, .int j => if 0 < j ∧ j < 1073741824 then some (.int (i / j)) else none
  | _, _ => none
def pow2 : U → U → Option U
  | .int i, .int j => if 0 ≤ j ∧ j ≤ 1000000 ∧ i.natAbs < 2 ^ 64 then some (.int (i ^ j.toNat)) else none
  | _, _ => none
def neg1 : U → Option U
  | .int i => some (.int (-i))
  | _ => none
def ltC (x y : Str) : Bool := decide (x.cps.toList < y.cps.toList)
def lt2 : U → U → Option U
  | .int i, .int j => some (.bl (decide (i < j)))
  | .str x, .str y => some (.bl (ltC x y))
  | _, _ => none
def le2 : U → U → Option U
  | .int i, .int j => some (.bl (decide (i ≤ j)))
  | .str x, .str y => some (.bl (!ltC y x))
  | _, _ => none
def gt2 : U → U → Option U
  | .int i, .int j => some (.bl (decide (j < i)))
  | .str x, .str y => some (.bl (ltC y x))
  | _, _ => none
def ge2 : U → U → Option U
  | .int i, .int j => some (.bl (decide (j ≤ i)))
  | .str x, .str y => some (.bl (!ltC x y))
  | _, _ => none
section
variable {K : PySem.W.Frag} {W : Addr → Prop} {io : List Addr} {H : Hp}
theorem Rep.int' {i : Int} {v : V} (h : Rep K W io H (.int i) v) : v = .int i := by unfold Rep at h; exact h
theorem Rep.str' {i : Str} {v : V} (h : Rep K W io H (.str i) v) : v = .str i := by unfold Rep at h; exact h
theorem Rep.bl' {i : Bool} {v : V} (h : Rep K W io H (.bl i) v) : v = .bl i := by unfold Rep at h; exact h
theorem Rep.non' {v : V} (h : Rep K W io H .non v) : v = .non := by unfold Rep at h; exact h
theorem Rep.tup' {us : List U} {v : V} (h : Rep K W io H (.tup us) v) : ∃ a vs, v = .ref a ∧ LT K W H a vs ∧ Reps K W io H us vs := by unfold Rep at h; exact h
theorem Rep.lst' {us : List U} {v : V} (h : Rep K W io H (.lst us) v) : ∃ a vs, v = .ref a ∧ LL K W H a vs ∧ Reps K W io H us vs := by unfold Rep at h; exact h
theorem rInt (i : Int) : Rep K W io H (.int i) (.int i) := by unfold Rep; rfl
theorem rStr (i : Str) : Rep K W io H (.str i) (.str i) := by unfold Rep; rfl
theorem rBl (i : Bool) : Rep K W io H (.bl i) (.bl i) := by unfold Rep; rfl
theorem rNon : Rep K W io H .non .non := by unfold Rep; rfl
theorem rTup {us : List U} {a : Addr} {vs : List V} (l : LT K W H a vs) (r : Reps K W io H us vs) : Rep K W io H (.tup us) (.ref a) := by unfold Rep; exact ⟨a, vs, rfl, l, r⟩
end
theorem Reps.rep {K : PySem.W.Frag} {W : Addr → Prop} {io : List Addr} {H : Hp} {us : List U} {vs : List V} (h : Reps K W io H us vs) : ∀ k : Nat, Reps K W io H (List.replicate k us).flatten (List.replicate k vs).flatten
  | 0 => .nil
  | k + 1 => by
    rw [List.replicate_succ, List.replicate_succ, List.flatten_cons, List.flatten_cons]
    exact h.append (Reps.rep h k)
section
variable {X : Cx}
theorem o_add : OpR X (binaryOp .Add) (P2 X.K add2) := by
  intro pins s sg H x y v u Q I rx ry h
  obtain ⟨G, io, st, u1, u2, u3, ok, r1, r2, e, q⟩ := h
  unfold add2 at e
  split at e
  · cases e; have e1 := r1.int'; have e2 := r2.int'; subst e1; subst e2
    exact op_add pins s sg H _ _ v u Q I rx ry ⟨_, _, rfl, rfl, q _ H (Same.refl H) (rInt _)⟩
  · split at e
    · rename_i hz
      cases e; have e1 := r1.str'; have e2 := r2.str'; subst e1; subst e2
      exact op_add_str pins s sg H _ _ v u Q I rx ry ⟨_, _, rfl, rfl, hz, q _ H (Same.refl H) (rStr _)⟩
    · cases e
  · split at e
    · rename_i hz
      cases e
      obtain ⟨a, vs, rfl, l1, s1⟩ := r1.tup'
      obtain ⟨b, ws, rfl, l2, s2⟩ := r2.tup'
      refine op_catA pins s sg H _ _ v u Q I rx ry ⟨a, b, vs, ws, rfl, rfl, l1.sq, l2.sq, by rw [← s1.length, ← s2.length]; exact hz, fun e => ?_, fun n e => ?_, fun n1 n2 p hp => ?_⟩
      · subst e
        have e0 : _ = [] := List.eq_nil_of_length_eq_zero (by rw [s1.length]; rfl)
        subst e0
        exact q _ H (Same.refl H) (rTup l2 s2)
      · subst e
        have e0 : _ = [] := List.eq_nil_of_length_eq_zero (by rw [s2.length]; rfl)
        subst e0
        exact q _ H (Same.refl H) (by rw [List.append_nil]; exact rTup l1 s1)
      · exact q _ _ (same_upd hp) (ok.newT hp (s1.append s2))
    · cases e
  · split at e
    · rename_i hz
      cases e
      obtain ⟨a, vs, rfl, l1, s1⟩ := r1.lst'
      obtain ⟨b, ws, rfl, l2, s2⟩ := r2.lst'
      exact op_cat pins s sg H _ _ v u Q I rx ry ⟨a, b, vs, ws, rfl, rfl, l1.1, l2.1, by rw [← s1.length, ← s2.length]; exact hz, fun p hp => q _ _ (same_upd hp) (ok.newL hp (s1.append s2))⟩
    · cases e
  · cases e
theorem o_sub : OpR X (binaryOp .Sub) (P2 X.K sub2) := by
  intro pins s sg H x y v u Q I rx ry h
  obtain ⟨G, io, st, u1, u2, u3, ok, r1, r2, e, q⟩ := h
  unfold sub2 at e
  split at e
  · cases e; have e1 := r1.int'; have e2 := r2.int'; subst e1; subst e2
    exact op_sub pins s sg H _ _ v u Q I rx ry ⟨_, _, rfl, rfl, q _ H (Same.refl H) (rInt _)⟩
  · cases e
theorem o_mul : OpR X (binaryOp .Mult) (P2 X.K mul2) := by
  intro pins s sg H x y v u Q I rx ry h
  obtain ⟨G, io, st, u1, u2, u3, ok, r1, r2, e, q⟩ := h
  unfold mul2 at e
  split at e
  · split at e
    · rename_i hs
      cases e; have e1 := r1.int'; have e2 := r2.int'; subst e1; subst e2
      refine op_mul pins s sg H _ _ v u Q I rx ry ⟨_, _, rfl, rfl, ?_, q _ H (Same.refl H) (rInt _)⟩
      rw [Bool.or_eq_true] at hs
      exact hs.imp of_decide_eq_true of_decide_eq_true
    · cases e
  · split at e
    · rename_i hz
      cases e
      obtain ⟨a, vs, rfl, l1, s1⟩ := r1.lst'
      have e2 := r2.int'; subst e2
      exact op_rep pins s sg H _ _ v u Q I rx ry ⟨a, _, vs, rfl, rfl, l1.1, hz.1, hz.2.1, by rw [← s1.length]; exact hz.2.2, fun p hp => q _ _ (same_upd hp) (ok.newL hp (s1.rep _))⟩
    · cases e
  · cases e
theorem o_mod : OpR X (binaryOp .Mod) (P2 X.K mod2) := by
  intro pins s sg H x y v u Q I rx ry h
  obtain ⟨G, io, st, u1, u2, u3, ok, r1, r2, e, q⟩ := h
  unfold mod2 at e
  split at e
  · split at e
    · rename_i hs
      cases e; have e1 := r1.int'; have e2 := r2.int'; subst e1; subst e2
      exact op_mod pins s sg H _ _ v u Q I rx ry ⟨_, _, rfl, rfl, hs, q _ H (Same.refl H) (rInt _)⟩
    · cases e
  · cases e
theorem o_fdiv : OpR X (binaryOp .FloorDiv) (P2 X.K fdiv2) := by
  intro pins s sg H x y v u Q I rx ry h
  obtain ⟨G, io, st, u1, u2, u3, ok, r1, r2, e, q⟩ := h
  unfold fdiv2 at e
  split at e
  · split at e
    · rename_i hs
      cases e; have e1 := r1.int'; have e2 := r2.int'; subst e1; subst e2
      exact op_fdiv pins s sg H _ _ v u Q I rx ry ⟨_, _, rfl, rfl, hs, q _ H (Same.refl H) (rInt _)⟩
    · cases e
  · cases e
theorem o_pow : OpR X (binaryOp .Pow) (P2 X.K pow2) := by
  intro pins s sg H x y v u Q I rx ry h
  obtain ⟨G, io, st, u1, u2, u3, ok, r1, r2, e, q⟩ := h
  unfold pow2 at e
  split at e
  · split at e
    · rename_i hs
      cases e; have e1 := r1.int'; have e2 := r2.int'; subst e1; subst e2
      exact op_pow pins s sg H _ _ v u Q I rx ry ⟨_, _, rfl, rfl, hs, q _ H (Same.refl H) (rInt _)⟩
    · cases e
  · cases e
theorem o_lt : OpR X (compareOp .Lt) (P2 X.K lt2) := by
  intro pins s sg H x y v u Q I rx ry h
  obtain ⟨G, io, st, u1, u2, u3, ok, r1, r2, e, q⟩ := h
  unfold lt2 at e
  split at e
  · cases e; have e1 := r1.int'; have e2 := r2.int'; subst e1; subst e2
    exact op_lt pins s sg H _ _ v u Q I rx ry ⟨_, _, rfl, rfl, q _ H (Same.refl H) (rBl _)⟩
  · cases e; have e1 := r1.str'; have e2 := r2.str'; subst e1; subst e2
    exact op_lt_str pins s sg H _ _ v u Q I rx ry ⟨_, _, rfl, rfl, q _ H (Same.refl H) (rBl _)⟩
  · cases e
theorem o_le : OpR X (compareOp .LtE) (P2 X.K le2) := by
  intro pins s sg H x y v u Q I rx ry h
  obtain ⟨G, io, st, u1, u2, u3, ok, r1, r2, e, q⟩ := h
  unfold le2 at e
  split at e
  · cases e; have e1 := r1.int'; have e2 := r2.int'; subst e1; subst e2
    exact op_le pins s sg H _ _ v u Q I rx ry ⟨_, _, rfl, rfl, q _ H (Same.refl H) (rBl _)⟩
  · cases e; have e1 := r1.str'; have e2 := r2.str'; subst e1; subst e2
    exact op_le_str pins s sg H _ _ v u Q I rx ry ⟨_, _, rfl, rfl, q _ H (Same.refl H) (rBl _)⟩
  · cases e
theorem o_gt : OpR X (compareOp .Gt) (P2 X.K gt2) := by
  intro pins s sg H x y v u Q I rx ry h
  obtain ⟨G, io, st, u1, u2, u3, ok, r1, r2, e, q⟩ := h
  unfold gt2 at e
  split at e
  · cases e; have e1 := r1.int'; have e2 := r2.int'; subst e1; subst e2
    exact op_gt pins s sg H _ _ v u Q I rx ry ⟨_, _, rfl, rfl, q _ H (Same.refl H) (rBl _)⟩
  · cases e; have e1 := r1.str'; have e2 := r2.str'; subst e1; subst e2
    exact op_gt_str pins s sg H _ _ v u Q I rx ry ⟨_, _, rfl, rfl, q _ H (Same.refl H) (rBl _)⟩
  · cases e
theorem o_ge : OpR X (compareOp .GtE) (P2 X.K ge2) := by
  intro pins s sg H x y v u Q I rx ry h
  obtain ⟨G, io, st, u1, u2, u3, ok, r1, r2, e, q⟩ := h
  unfold ge2 at e
  split at e
  · cases e; have e1 := r1.int'; have e2 := r2.int'; subst e1; subst e2
    exact op_ge pins s sg H _ _ v u Q I rx ry ⟨_, _, rfl, rfl, q _ H (Same.refl H) (rBl _)⟩
  · cases e; have e1 := r1.str'; have e2 := r2.str'; subst e1; subst e2
    exact op_ge_str pins s sg H _ _ v u Q I rx ry ⟨_, _, rfl, rfl, q _ H (Same.refl H) (rBl _)⟩
  · cases e
end
end D
namespace D
open PySem L2
/-- == of two things that are not both tuples or both lists -/
def eqP : U → U → Option Bool
  | .non, .non => some true
  | .non, .bl _ => some false
  | .non, .int _ => some false
  | .non, .str _ => some false
  | .non, .tup _ => some false
  | .non, .lst _ => some false
  | .bl _, .non => some false
  | .bl a1, .bl a2 => some (a1 == a2)
  | .bl a1, .int a2 => some ((if a1 then 1 else 0) == a2)
  | .bl _, .str _ => some false
  | .bl _, .tup _ => some false
  | .bl _, .lst _ => some false
  | .int _, .non => some false
  | .int a1, .bl a2 => some (a1 == (if a2 then 1 else 0))
  | .int a1, .int a2 => some (a1 == a2)
  | .int _, .str _ => some false
  | .int _, .tup _ => some false
  | .int _, .lst _ => some false
  | .str _, .non => some false
  | .str _, .bl _ => some false
  | .str _, .int _ => some false
  | .str a1, .str a2 => some (a1 == a2)
  | .str _, .tup _ => some false
  | .str _, .lst _ => some false
  | .tup _, .non => some false
  | .tup _, .bl _ => some false
  | .tup _, .int _ => some false
  | .tup _, .str _ => some false
  | .tup _, .lst _ => some false
  | .lst _, .non => some false
  | .lst _, .bl _ => some false
  | .lst _, .int _ => some false
  | .lst _, .str _ => some false
  | .lst _, .tup _ => some false
  | _, _ => none
structure Pairs (A : Around) (s : Shared) (f : Bool → Bool) (R : Value → Value → Bool → Prop) : Prop where
  none_none : ∀ (_ : True), R .none .none (f true)
  none_bool : ∀ (a2 : Bool), R .none (.bool a2) (f false)
  none_int : ∀ (a2 : Int) (t2 : Tok), R .none (.int a2 t2) (f false)
  none_str : ∀ (a2 : Str) (t2 : Tok), R .none (.str a2 t2) (f false)
  none_tuple : ∀ (l2 : Addr) (j2 : Array Value) (h2 : s.heap.IsTuple l2 j2), R .none (.ref l2) (f false)
  none_list : ∀ (l2 : Addr) (j2 : Array Value) (h2 : s.heap.IsList l2 j2), R .none (.ref l2) (f false)
  bool_none : ∀ (a1 : Bool), R (.bool a1) .none (f false)
  bool_bool : ∀ (a1 : Bool) (a2 : Bool), R (.bool a1) (.bool a2) (f (a1 == a2))
  bool_int : ∀ (a1 : Bool) (a2 : Int) (t2 : Tok), R (.bool a1) (.int a2 t2) (f ((if a1 then 1 else 0) == a2))
  bool_str : ∀ (a1 : Bool) (a2 : Str) (t2 : Tok), R (.bool a1) (.str a2 t2) (f false)
  bool_tuple : ∀ (a1 : Bool) (l2 : Addr) (j2 : Array Value) (h2 : s.heap.IsTuple l2 j2), R (.bool a1) (.ref l2) (f false)
  bool_list : ∀ (a1 : Bool) (l2 : Addr) (j2 : Array Value) (h2 : s.heap.IsList l2 j2), R (.bool a1) (.ref l2) (f false)
  int_none : ∀ (a1 : Int) (t1 : Tok), R (.int a1 t1) .none (f false)
  int_bool : ∀ (a1 : Int) (t1 : Tok) (a2 : Bool), R (.int a1 t1) (.bool a2) (f (a1 == (if a2 then 1 else 0)))
  int_int : ∀ (a1 : Int) (t1 : Tok) (a2 : Int) (t2 : Tok), R (.int a1 t1) (.int a2 t2) (f (a1 == a2))
  int_str : ∀ (a1 : Int) (t1 : Tok) (a2 : Str) (t2 : Tok), R (.int a1 t1) (.str a2 t2) (f false)
  int_tuple : ∀ (a1 : Int) (t1 : Tok) (l2 : Addr) (j2 : Array Value) (h2 : s.heap.IsTuple l2 j2), R (.int a1 t1) (.ref l2) (f false)
  int_list : ∀ (a1 : Int) (t1 : Tok) (l2 : Addr) (j2 : Array Value) (h2 : s.heap.IsList l2 j2), R (.int a1 t1) (.ref l2) (f false)
  str_none : ∀ (a1 : Str) (t1 : Tok), R (.str a1 t1) .none (f false)
  str_bool : ∀ (a1 : Str) (t1 : Tok) (a2 : Bool), R (.str a1 t1) (.bool a2) (f false)
  str_int : ∀ (a1 : Str) (t1 : Tok) (a2 : Int) (t2 : Tok), R (.str a1 t1) (.int a2 t2) (f false)
  str_str : ∀ (a1 : Str) (t1 : Tok) (a2 : Str) (t2 : Tok), R (.str a1 t1) (.str a2 t2) (f (a1 == a2))
  str_tuple : ∀ (a1 : Str) (t1 : Tok) (l2 : Addr) (j2 : Array Value) (h2 : s.heap.IsTuple l2 j2), R (.str a1 t1) (.ref l2) (f false)
  str_list : ∀ (a1 : Str) (t1 : Tok) (l2 : Addr) (j2 : Array Value) (h2 : s.heap.IsList l2 j2), R (.str a1 t1) (.ref l2) (f false)
  tuple_none : ∀ (l1 : Addr) (j1 : Array Value) (h1 : s.heap.IsTuple l1 j1), R (.ref l1) .none (f false)
  tuple_bool : ∀ (l1 : Addr) (j1 : Array Value) (h1 : s.heap.IsTuple l1 j1) (a2 : Bool), R (.ref l1) (.bool a2) (f false)
  tuple_int : ∀ (l1 : Addr) (j1 : Array Value) (h1 : s.heap.IsTuple l1 j1) (a2 : Int) (t2 : Tok), R (.ref l1) (.int a2 t2) (f false)
  tuple_str : ∀ (l1 : Addr) (j1 : Array Value) (h1 : s.heap.IsTuple l1 j1) (a2 : Str) (t2 : Tok), R (.ref l1) (.str a2 t2) (f false)
  tuple_list : ∀ (l1 : Addr) (j1 : Array Value) (h1 : s.heap.IsTuple l1 j1) (l2 : Addr) (j2 : Array Value) (h2 : s.heap.IsList l2 j2), R (.ref l1) (.ref l2) (f false)
  list_none : ∀ (l1 : Addr) (j1 : Array Value) (h1 : s.heap.IsList l1 j1), R (.ref l1) .none (f false)
  list_bool : ∀ (l1 : Addr) (j1 : Array Value) (h1 : s.heap.IsList l1 j1) (a2 : Bool), R (.ref l1) (.bool a2) (f false)
  list_int : ∀ (l1 : Addr) (j1 : Array Value) (h1 : s.heap.IsList l1 j1) (a2 : Int) (t2 : Tok), R (.ref l1) (.int a2 t2) (f false)
  list_str : ∀ (l1 : Addr) (j1 : Array Value) (h1 : s.heap.IsList l1 j1) (a2 : Str) (t2 : Tok), R (.ref l1) (.str a2 t2) (f false)
  list_tuple : ∀ (l1 : Addr) (j1 : Array Value) (h1 : s.heap.IsList l1 j1) (l2 : Addr) (j2 : Array Value) (h2 : s.heap.IsTuple l2 j2), R (.ref l1) (.ref l2) (f false)
theorem pairs_eq {A : Around} {s : Shared} (hu : A.units < cLine) : Pairs A s id (SeqAt.EqAt A s) where
  none_none := fun _ => SeqAt.EqAt.same _
  none_bool := fun a2 => SeqAt.EqAt.none_bool a2
  none_int := fun a2 t2 => SeqAt.EqAt.none_int a2 t2
  none_str := fun a2 t2 => SeqAt.EqAt.none_str a2 t2
  none_tuple := fun _ _ h2 => SeqAt.EqAt.none_tuple h2 hu
  none_list := fun _ _ h2 => SeqAt.EqAt.none_list h2 hu
  bool_none := fun a1 => SeqAt.EqAt.bool_none a1
  bool_bool := fun a1 a2 => SeqAt.EqAt.bool_bool a1 a2
  bool_int := fun a1 a2 t2 => SeqAt.EqAt.bool_int a1 a2 t2
  bool_str := fun a1 a2 t2 => SeqAt.EqAt.bool_str a1 a2 t2
  bool_tuple := fun a1 _ _ h2 => SeqAt.EqAt.bool_tuple a1 h2 hu
  bool_list := fun a1 _ _ h2 => SeqAt.EqAt.bool_list a1 h2 hu
  int_none := fun a1 t1 => SeqAt.EqAt.int_none a1 t1
  int_bool := fun a1 t1 a2 => SeqAt.EqAt.int_bool a1 t1 a2
  int_int := fun a1 t1 a2 t2 => SeqAt.EqAt.int_int a1 t1 a2 t2
  int_str := fun a1 t1 a2 t2 => SeqAt.EqAt.int_str a1 t1 a2 t2
  int_tuple := fun a1 t1 _ _ h2 => SeqAt.EqAt.int_tuple a1 t1 h2 hu
  int_list := fun a1 t1 _ _ h2 => SeqAt.EqAt.int_list a1 t1 h2 hu
  str_none := fun a1 t1 => SeqAt.EqAt.str_none a1 t1
  str_bool := fun a1 t1 a2 => SeqAt.EqAt.str_bool a1 t1 a2
  str_int := fun a1 t1 a2 t2 => SeqAt.EqAt.str_int a1 t1 a2 t2
  str_str := fun a1 t1 a2 t2 => SeqAt.EqAt.str_str a1 t1 a2 t2
  str_tuple := fun a1 t1 _ _ h2 => SeqAt.EqAt.str_tuple a1 t1 h2 hu
  str_list := fun a1 t1 _ _ h2 => SeqAt.EqAt.str_list a1 t1 h2 hu
  tuple_none := fun _ _ h1 => SeqAt.EqAt.tuple_none h1 hu
  tuple_bool := fun _ _ h1 a2 => SeqAt.EqAt.tuple_bool a2 h1 hu
  tuple_int := fun _ _ h1 a2 t2 => SeqAt.EqAt.tuple_int a2 t2 h1 hu
  tuple_str := fun _ _ h1 a2 t2 => SeqAt.EqAt.tuple_str a2 t2 h1 hu
  tuple_list := fun _ _ h1 _ _ h2 => SeqAt.EqAt.tuple_list h1 h2 hu
  list_none := fun _ _ h1 => SeqAt.EqAt.list_none h1 hu
  list_bool := fun _ _ h1 a2 => SeqAt.EqAt.list_bool a2 h1 hu
  list_int := fun _ _ h1 a2 t2 => SeqAt.EqAt.list_int a2 t2 h1 hu
  list_str := fun _ _ h1 a2 t2 => SeqAt.EqAt.list_str a2 t2 h1 hu
  list_tuple := fun _ _ h1 _ _ h2 => SeqAt.EqAt.list_tuple h1 h2 hu
theorem pairs_rc {A : Around} {s : Shared} (hu : A.units < cLine) : Pairs A s id (SeqAt.RcAt A s) where
  none_none := fun _ => SeqAt.RcAt.none_none
  none_bool := fun a2 => SeqAt.RcAt.none_bool a2
  none_int := fun a2 t2 => SeqAt.RcAt.none_int a2 t2
  none_str := fun a2 t2 => SeqAt.RcAt.none_str a2 t2
  none_tuple := fun _ _ h2 => SeqAt.RcAt.none_tuple h2 hu
  none_list := fun _ _ h2 => SeqAt.RcAt.none_list h2 hu
  bool_none := fun a1 => SeqAt.RcAt.bool_none a1
  bool_bool := fun a1 a2 => SeqAt.RcAt.bool_bool a1 a2
  bool_int := fun a1 a2 t2 => SeqAt.RcAt.bool_int a1 a2 t2
  bool_str := fun a1 a2 t2 => SeqAt.RcAt.bool_str a1 a2 t2
  bool_tuple := fun a1 _ _ h2 => SeqAt.RcAt.bool_tuple a1 h2 hu
  bool_list := fun a1 _ _ h2 => SeqAt.RcAt.bool_list a1 h2 hu
  int_none := fun a1 t1 => SeqAt.RcAt.int_none a1 t1
  int_bool := fun a1 t1 a2 => SeqAt.RcAt.int_bool a1 t1 a2
  int_int := fun a1 t1 a2 t2 => SeqAt.RcAt.int_int a1 t1 a2 t2
  int_str := fun a1 t1 a2 t2 => SeqAt.RcAt.int_str a1 t1 a2 t2
  int_tuple := fun a1 t1 _ _ h2 => SeqAt.RcAt.int_tuple a1 t1 h2 hu
  int_list := fun a1 t1 _ _ h2 => SeqAt.RcAt.int_list a1 t1 h2 hu
  str_none := fun a1 t1 => SeqAt.RcAt.str_none a1 t1
  str_bool := fun a1 t1 a2 => SeqAt.RcAt.str_bool a1 t1 a2
  str_int := fun a1 t1 a2 t2 => SeqAt.RcAt.str_int a1 t1 a2 t2
  str_str := fun a1 t1 a2 t2 => SeqAt.RcAt.str_str a1 t1 a2 t2
  str_tuple := fun a1 t1 _ _ h2 => SeqAt.RcAt.str_tuple a1 t1 h2 hu
  str_list := fun a1 t1 _ _ h2 => SeqAt.RcAt.str_list a1 t1 h2 hu
  tuple_none := fun _ _ h1 => SeqAt.RcAt.tuple_none h1 hu
  tuple_bool := fun _ _ h1 a2 => SeqAt.RcAt.tuple_bool a2 h1 hu
  tuple_int := fun _ _ h1 a2 t2 => SeqAt.RcAt.tuple_int a2 t2 h1 hu
  tuple_str := fun _ _ h1 a2 t2 => SeqAt.RcAt.tuple_str a2 t2 h1 hu
  tuple_list := fun _ _ h1 _ _ h2 => SeqAt.RcAt.tuple_list h1 h2 hu
  list_none := fun _ _ h1 => SeqAt.RcAt.list_none h1 hu
  list_bool := fun _ _ h1 a2 => SeqAt.RcAt.list_bool a2 h1 hu
  list_int := fun _ _ h1 a2 t2 => SeqAt.RcAt.list_int a2 t2 h1 hu
  list_str := fun _ _ h1 a2 t2 => SeqAt.RcAt.list_str a2 t2 h1 hu
  list_tuple := fun _ _ h1 _ _ h2 => SeqAt.RcAt.list_tuple h1 h2 hu
theorem pairs_rn {A : Around} {s : Shared} (hu : A.units < cLine) : Pairs A s Bool.not (SeqAt.RcNeAt A s) where
  none_none := fun _ => SeqAt.RcNeAt.none_none
  none_bool := fun a2 => SeqAt.RcNeAt.none_bool a2
  none_int := fun a2 t2 => SeqAt.RcNeAt.none_int a2 t2
  none_str := fun a2 t2 => SeqAt.RcNeAt.none_str a2 t2
  none_tuple := fun _ _ h2 => SeqAt.RcNeAt.none_tuple h2 hu
  none_list := fun _ _ h2 => SeqAt.RcNeAt.none_list h2 hu
  bool_none := fun a1 => SeqAt.RcNeAt.bool_none a1
  bool_bool := fun a1 a2 => SeqAt.RcNeAt.bool_bool a1 a2
  bool_int := fun a1 a2 t2 => SeqAt.RcNeAt.bool_int a1 a2 t2
  bool_str := fun a1 a2 t2 => SeqAt.RcNeAt.bool_str a1 a2 t2
  bool_tuple := fun a1 _ _ h2 => SeqAt.RcNeAt.bool_tuple a1 h2 hu
  bool_list := fun a1 _ _ h2 => SeqAt.RcNeAt.bool_list a1 h2 hu
  int_none := fun a1 t1 => SeqAt.RcNeAt.int_none a1 t1
  int_bool := fun a1 t1 a2 => SeqAt.RcNeAt.int_bool a1 t1 a2
  int_int := fun a1 t1 a2 t2 => SeqAt.RcNeAt.int_int a1 t1 a2 t2
  int_str := fun a1 t1 a2 t2 => SeqAt.RcNeAt.int_str a1 t1 a2 t2
  int_tuple := fun a1 t1 _ _ h2 => SeqAt.RcNeAt.int_tuple a1 t1 h2 hu
  int_list := fun a1 t1 _ _ h2 => SeqAt.RcNeAt.int_list a1 t1 h2 hu
  str_none := fun a1 t1 => SeqAt.RcNeAt.str_none a1 t1
  str_bool := fun a1 t1 a2 => SeqAt.RcNeAt.str_bool a1 t1 a2
  str_int := fun a1 t1 a2 t2 => SeqAt.RcNeAt.str_int a1 t1 a2 t2
  str_str := fun a1 t1 a2 t2 => SeqAt.RcNeAt.str_str a1 t1 a2 t2
  str_tuple := fun a1 t1 _ _ h2 => SeqAt.RcNeAt.str_tuple a1 t1 h2 hu
  str_list := fun a1 t1 _ _ h2 => SeqAt.RcNeAt.str_list a1 t1 h2 hu
  tuple_none := fun _ _ h1 => SeqAt.RcNeAt.tuple_none h1 hu
  tuple_bool := fun _ _ h1 a2 => SeqAt.RcNeAt.tuple_bool a2 h1 hu
  tuple_int := fun _ _ h1 a2 t2 => SeqAt.RcNeAt.tuple_int a2 t2 h1 hu
  tuple_str := fun _ _ h1 a2 t2 => SeqAt.RcNeAt.tuple_str a2 t2 h1 hu
  tuple_list := fun _ _ h1 _ _ h2 => SeqAt.RcNeAt.tuple_list h1 h2 hu
  list_none := fun _ _ h1 => SeqAt.RcNeAt.list_none h1 hu
  list_bool := fun _ _ h1 a2 => SeqAt.RcNeAt.list_bool a2 h1 hu
  list_int := fun _ _ h1 a2 t2 => SeqAt.RcNeAt.list_int a2 t2 h1 hu
  list_str := fun _ _ h1 a2 t2 => SeqAt.RcNeAt.list_str a2 t2 h1 hu
  list_tuple := fun _ _ h1 _ _ h2 => SeqAt.RcNeAt.list_tuple h1 h2 hu
theorem pairs_at {X : Cx} {pins : List (Addr × Obj)} {sg : L2.St} {H : Hp} {s : Shared} {W : Addr → Prop} {io : List Addr} (I : Inv X pins sg H s) {A : Around} {f : Bool → Bool} {R : Value → Value → Bool → Prop} (P : Pairs A s f R) : ∀ (u1 u2 : U) {x1 x2 : V} {v1 v2 : Value} {b : Bool}, Rep X.K W io H u1 x1 → Rep X.K W io H u2 x2 → RelV x1 v1 → RelV x2 v2 → eqP u1 u2 = some b → R v1 v2 (f b)
  | .non, .non, x1, x2, v1, v2, b, r1, r2, rv1, rv2, e => by
    have e1 := r1.non'; subst e1; have z1 : v1 = Value.none := rv1; subst z1
    have e2 := r2.non'; subst e2; have z2 : v2 = Value.none := rv2; subst z2
    cases e; exact P.none_none trivial
  | .non, .bl a2, x1, x2, v1, v2, b, r1, r2, rv1, rv2, e => by
    have e1 := r1.non'; subst e1; have z1 : v1 = Value.none := rv1; subst z1
    have e2 := r2.bl'; subst e2; have z2 : v2 = Value.bool a2 := rv2; subst z2
    cases e; exact P.none_bool a2
  | .non, .int a2, x1, x2, v1, v2, b, r1, r2, rv1, rv2, e => by
    have e1 := r1.non'; subst e1; have z1 : v1 = Value.none := rv1; subst z1
    have e2 := r2.int'; subst e2; obtain ⟨t2, z2⟩ := rv2; subst z2
    cases e; exact P.none_int a2 t2
  | .non, .str a2, x1, x2, v1, v2, b, r1, r2, rv1, rv2, e => by
    have e1 := r1.non'; subst e1; have z1 : v1 = Value.none := rv1; subst z1
    have e2 := r2.str'; subst e2; obtain ⟨t2, z2⟩ := rv2; subst z2
    cases e; exact P.none_str a2 t2
  | .non, .tup us2, x1, x2, v1, v2, b, r1, r2, rv1, rv2, e => by
    have e1 := r1.non'; subst e1; have z1 : v1 = Value.none := rv1; subst z1
    obtain ⟨l2, vs2, e2, q2, p2⟩ := r2.tup'; subst e2; have z2 : v2 = Value.ref l2 := rv2; subst z2; obtain ⟨its2, w2, h2, _⟩ := I.tuple q2.sq
    cases e; exact P.none_tuple _ _ h2
  | .non, .lst us2, x1, x2, v1, v2, b, r1, r2, rv1, rv2, e => by
    have e1 := r1.non'; subst e1; have z1 : v1 = Value.none := rv1; subst z1
    obtain ⟨l2, vs2, e2, q2, p2⟩ := r2.lst'; subst e2; have z2 : v2 = Value.ref l2 := rv2; subst z2; obtain ⟨its2, w2, g2, _⟩ := I.list q2.sq; have h2 := g2.isList
    cases e; exact P.none_list _ _ h2
  | .bl a1, .non, x1, x2, v1, v2, b, r1, r2, rv1, rv2, e => by
    have e1 := r1.bl'; subst e1; have z1 : v1 = Value.bool a1 := rv1; subst z1
    have e2 := r2.non'; subst e2; have z2 : v2 = Value.none := rv2; subst z2
    cases e; exact P.bool_none a1
  | .bl a1, .bl a2, x1, x2, v1, v2, b, r1, r2, rv1, rv2, e => by
    have e1 := r1.bl'; subst e1; have z1 : v1 = Value.bool a1 := rv1; subst z1
    have e2 := r2.bl'; subst e2; have z2 : v2 = Value.bool a2 := rv2; subst z2
    cases e; exact P.bool_bool a1 a2
  | .bl a1, .int a2, x1, x2, v1, v2, b, r1, r2, rv1, rv2, e => by
    have e1 := r1.bl'; subst e1; have z1 : v1 = Value.bool a1 := rv1; subst z1
    have e2 := r2.int'; subst e2; obtain ⟨t2, z2⟩ := rv2; subst z2
    cases e; exact P.bool_int a1 a2 t2
  | .bl a1, .str a2, x1, x2, v1, v2, b, r1, r2, rv1, rv2, e => by
    have e1 := r1.bl'; subst e1; have z1 : v1 = Value.bool a1 := rv1; subst z1
    have e2 := r2.str'; subst e2; obtain ⟨t2, z2⟩ := rv2; subst z2
    cases e; exact P.bool_str a1 a2 t2
  | .bl a1, .tup us2, x1, x2, v1, v2, b, r1, r2, rv1, rv2, e => by
    have e1 := r1.bl'; subst e1; have z1 : v1 = Value.bool a1 := rv1; subst z1
    obtain ⟨l2, vs2, e2, q2, p2⟩ := r2.tup'; subst e2; have z2 : v2 = Value.ref l2 := rv2; subst z2; obtain ⟨its2, w2, h2, _⟩ := I.tuple q2.sq
    cases e; exact P.bool_tuple a1 _ _ h2
  | .bl a1, .lst us2, x1, x2, v1, v2, b, r1, r2, rv1, rv2, e => by
    have e1 := r1.bl'; subst e1; have z1 : v1 = Value.bool a1 := rv1; subst z1
    obtain ⟨l2, vs2, e2, q2, p2⟩ := r2.lst'; subst e2; have z2 : v2 = Value.ref l2 := rv2; subst z2; obtain ⟨its2, w2, g2, _⟩ := I.list q2.sq; have h2 := g2.isList
    cases e; exact P.bool_list a1 _ _ h2
  | .int a1, .non, x1, x2, v1, v2, b, r1, r2, rv1, rv2, e => by
    have e1 := r1.int'; subst e1; obtain ⟨t1, z1⟩ := rv1; subst z1
    have e2 := r2.non'; subst e2; have z2 : v2 = Value.none := rv2; subst z2
    cases e; exact P.int_none a1 t1
  | .int a1, .bl a2, x1, x2, v1, v2, b, r1, r2, rv1, rv2, e => by
    have e1 := r1.int'; subst e1; obtain ⟨t1, z1⟩ := rv1; subst z1
    have e2 := r2.bl'; subst e2; have z2 : v2 = Value.bool a2 := rv2; subst z2
    cases e; exact P.int_bool a1 t1 a2
  | .int a1, .int a2, x1, x2, v1, v2, b, r1, r2, rv1, rv2, e => by
    have e1 := r1.int'; subst e1; obtain ⟨t1, z1⟩ := rv1; subst z1
    have e2 := r2.int'; subst e2; obtain ⟨t2, z2⟩ := rv2; subst z2
    cases e; exact P.int_int a1 t1 a2 t2
  | .int a1, .str a2, x1, x2, v1, v2, b, r1, r2, rv1, rv2, e => by
    have e1 := r1.int'; subst e1; obtain ⟨t1, z1⟩ := rv1; subst z1
    have e2 := r2.str'; subst e2; obtain ⟨t2, z2⟩ := rv2; subst z2
    cases e; exact P.int_str a1 t1 a2 t2
  | .int a1, .tup us2, x1, x2, v1, v2, b, r1, r2, rv1, rv2, e => by
    have e1 := r1.int'; subst e1; obtain ⟨t1, z1⟩ := rv1; subst z1
    obtain ⟨l2, vs2, e2, q2, p2⟩ := r2.tup'; subst e2; have z2 : v2 = Value.ref l2 := rv2; subst z2; obtain ⟨its2, w2, h2, _⟩ := I.tuple q2.sq
    cases e; exact P.int_tuple a1 t1 _ _ h2
  | .int a1, .lst us2, x1, x2, v1, v2, b, r1, r2, rv1, rv2, e => by
    have e1 := r1.int'; subst e1; obtain ⟨t1, z1⟩ := rv1; subst z1
    obtain ⟨l2, vs2, e2, q2, p2⟩ := r2.lst'; subst e2; have z2 : v2 = Value.ref l2 := rv2; subst z2; obtain ⟨its2, w2, g2, _⟩ := I.list q2.sq; have h2 := g2.isList
    cases e; exact P.int_list a1 t1 _ _ h2
  | .str a1, .non, x1, x2, v1, v2, b, r1, r2, rv1, rv2, e => by
    have e1 := r1.str'; subst e1; obtain ⟨t1, z1⟩ := rv1; subst z1
    have e2 := r2.non'; subst e2; have z2 : v2 = Value.none := rv2; subst z2
    cases e; exact P.str_none a1 t1
  | .str a1, .bl a2, x1, x2, v1, v2, b, r1, r2, rv1, rv2, e => by
    have e1 := r1.str'; subst e1; obtain ⟨t1, z1⟩ := rv1; subst z1
    have e2 := r2.bl'; subst e2; have z2 : v2 = Value.bool a2 := rv2; subst z2
    cases e; exact P.str_bool a1 t1 a2
  | .str a1, .int a2, x1, x2, v1, v2, b, r1, r2, rv1, rv2, e => by
    have e1 := r1.str'; subst e1; obtain ⟨t1, z1⟩ := rv1; subst z1
    have e2 := r2.int'; subst e2; obtain ⟨t2, z2⟩ := rv2; subst z2
    cases e; exact P.str_int a1 t1 a2 t2
  | .str a1, .str a2, x1, x2, v1, v2, b, r1, r2, rv1, rv2, e => by
    have e1 := r1.str'; subst e1; obtain ⟨t1, z1⟩ := rv1; subst z1
    have e2 := r2.str'; subst e2; obtain ⟨t2, z2⟩ := rv2; subst z2
    cases e; exact P.str_str a1 t1 a2 t2
  | .str a1, .tup us2, x1, x2, v1, v2, b, r1, r2, rv1, rv2, e => by
    have e1 := r1.str'; subst e1; obtain ⟨t1, z1⟩ := rv1; subst z1
    obtain ⟨l2, vs2, e2, q2, p2⟩ := r2.tup'; subst e2; have z2 : v2 = Value.ref l2 := rv2; subst z2; obtain ⟨its2, w2, h2, _⟩ := I.tuple q2.sq
    cases e; exact P.str_tuple a1 t1 _ _ h2
  | .str a1, .lst us2, x1, x2, v1, v2, b, r1, r2, rv1, rv2, e => by
    have e1 := r1.str'; subst e1; obtain ⟨t1, z1⟩ := rv1; subst z1
    obtain ⟨l2, vs2, e2, q2, p2⟩ := r2.lst'; subst e2; have z2 : v2 = Value.ref l2 := rv2; subst z2; obtain ⟨its2, w2, g2, _⟩ := I.list q2.sq; have h2 := g2.isList
    cases e; exact P.str_list a1 t1 _ _ h2
  | .tup us1, .non, x1, x2, v1, v2, b, r1, r2, rv1, rv2, e => by
    obtain ⟨l1, vs1, e1, q1, p1⟩ := r1.tup'; subst e1; have z1 : v1 = Value.ref l1 := rv1; subst z1; obtain ⟨its1, w1, h1, _⟩ := I.tuple q1.sq
    have e2 := r2.non'; subst e2; have z2 : v2 = Value.none := rv2; subst z2
    cases e; exact P.tuple_none _ _ h1
  | .tup us1, .bl a2, x1, x2, v1, v2, b, r1, r2, rv1, rv2, e => by
    obtain ⟨l1, vs1, e1, q1, p1⟩ := r1.tup'; subst e1; have z1 : v1 = Value.ref l1 := rv1; subst z1; obtain ⟨its1, w1, h1, _⟩ := I.tuple q1.sq
    have e2 := r2.bl'; subst e2; have z2 : v2 = Value.bool a2 := rv2; subst z2
    cases e; exact P.tuple_bool _ _ h1 a2
  | .tup us1, .int a2, x1, x2, v1, v2, b, r1, r2, rv1, rv2, e => by
    obtain ⟨l1, vs1, e1, q1, p1⟩ := r1.tup'; subst e1; have z1 : v1 = Value.ref l1 := rv1; subst z1; obtain ⟨its1, w1, h1, _⟩ := I.tuple q1.sq
    have e2 := r2.int'; subst e2; obtain ⟨t2, z2⟩ := rv2; subst z2
    cases e; exact P.tuple_int _ _ h1 a2 t2
  | .tup us1, .str a2, x1, x2, v1, v2, b, r1, r2, rv1, rv2, e => by
    obtain ⟨l1, vs1, e1, q1, p1⟩ := r1.tup'; subst e1; have z1 : v1 = Value.ref l1 := rv1; subst z1; obtain ⟨its1, w1, h1, _⟩ := I.tuple q1.sq
    have e2 := r2.str'; subst e2; obtain ⟨t2, z2⟩ := rv2; subst z2
    cases e; exact P.tuple_str _ _ h1 a2 t2
  | .tup us1, .lst us2, x1, x2, v1, v2, b, r1, r2, rv1, rv2, e => by
    obtain ⟨l1, vs1, e1, q1, p1⟩ := r1.tup'; subst e1; have z1 : v1 = Value.ref l1 := rv1; subst z1; obtain ⟨its1, w1, h1, _⟩ := I.tuple q1.sq
    obtain ⟨l2, vs2, e2, q2, p2⟩ := r2.lst'; subst e2; have z2 : v2 = Value.ref l2 := rv2; subst z2; obtain ⟨its2, w2, g2, _⟩ := I.list q2.sq; have h2 := g2.isList
    cases e; exact P.tuple_list _ _ h1 _ _ h2
  | .lst us1, .non, x1, x2, v1, v2, b, r1, r2, rv1, rv2, e => by
    obtain ⟨l1, vs1, e1, q1, p1⟩ := r1.lst'; subst e1; have z1 : v1 = Value.ref l1 := rv1; subst z1; obtain ⟨its1, w1, g1, _⟩ := I.list q1.sq; have h1 := g1.isList
    have e2 := r2.non'; subst e2; have z2 : v2 = Value.none := rv2; subst z2
    cases e; exact P.list_none _ _ h1
  | .lst us1, .bl a2, x1, x2, v1, v2, b, r1, r2, rv1, rv2, e => by
    obtain ⟨l1, vs1, e1, q1, p1⟩ := r1.lst'; subst e1; have z1 : v1 = Value.ref l1 := rv1; subst z1; obtain ⟨its1, w1, g1, _⟩ := I.list q1.sq; have h1 := g1.isList
    have e2 := r2.bl'; subst e2; have z2 : v2 = Value.bool a2 := rv2; subst z2
    cases e; exact P.list_bool _ _ h1 a2
  | .lst us1, .int a2, x1, x2, v1, v2, b, r1, r2, rv1, rv2, e => by
    obtain ⟨l1, vs1, e1, q1, p1⟩ := r1.lst'; subst e1; have z1 : v1 = Value.ref l1 := rv1; subst z1; obtain ⟨its1, w1, g1, _⟩ := I.list q1.sq; have h1 := g1.isList
    have e2 := r2.int'; subst e2; obtain ⟨t2, z2⟩ := rv2; subst z2
    cases e; exact P.list_int _ _ h1 a2 t2
  | .lst us1, .str a2, x1, x2, v1, v2, b, r1, r2, rv1, rv2, e => by
    obtain ⟨l1, vs1, e1, q1, p1⟩ := r1.lst'; subst e1; have z1 : v1 = Value.ref l1 := rv1; subst z1; obtain ⟨its1, w1, g1, _⟩ := I.list q1.sq; have h1 := g1.isList
    have e2 := r2.str'; subst e2; obtain ⟨t2, z2⟩ := rv2; subst z2
    cases e; exact P.list_str _ _ h1 a2 t2
  | .lst us1, .tup us2, x1, x2, v1, v2, b, r1, r2, rv1, rv2, e => by
    obtain ⟨l1, vs1, e1, q1, p1⟩ := r1.lst'; subst e1; have z1 : v1 = Value.ref l1 := rv1; subst z1; obtain ⟨its1, w1, g1, _⟩ := I.list q1.sq; have h1 := g1.isList
    obtain ⟨l2, vs2, e2, q2, p2⟩ := r2.tup'; subst e2; have z2 : v2 = Value.ref l2 := rv2; subst z2; obtain ⟨its2, w2, h2, _⟩ := I.tuple q2.sq
    cases e; exact P.list_tuple _ _ h1 _ _ h2
  | .tup us1, .tup us2, _, _, _, _, _, _, _, _, _, h => nomatch h
  | .lst us1, .lst us2, _, _, _, _, _, _, _, _, _, h => nomatch h
  | .dct _ _, u2, _, _, _, _, _, _, _, _, _, h => by cases u2 <;> cases h
  | .non, .dct _ _, _, _, _, _, _, _, _, _, _, h => nomatch h
  | .bl _, .dct _ _, _, _, _, _, _, _, _, _, _, h => nomatch h
  | .int _, .dct _ _, _, _, _, _, _, _, _, _, _, h => nomatch h
  | .str _, .dct _ _, _, _, _, _, _, _, _, _, _, h => nomatch h
  | .tup _, .dct _ _, _, _, _, _, _, _, _, _, _, h => nomatch h
  | .lst _, .dct _ _, _, _, _, _, _, _, _, _, _, h => nomatch h
  | .ref _, u2, _, _, _, _, _, _, _, _, _, h => by cases u2 <;> cases h
  | .non, .ref _, _, _, _, _, _, _, _, _, _, h => nomatch h
  | .bl _, .ref _, _, _, _, _, _, _, _, _, _, h => nomatch h
  | .int _, .ref _, _, _, _, _, _, _, _, _, _, h => nomatch h
  | .str _, .ref _, _, _, _, _, _, _, _, _, _, h => nomatch h
  | .tup _, .ref _, _, _, _, _, _, _, _, _, _, h => nomatch h
  | .lst _, .ref _, _, _, _, _, _, _, _, _, _, h => nomatch h
  | .ty _, u2, _, _, _, _, _, _, _, _, _, h => by cases u2 <;> cases h
  | .non, .ty _, _, _, _, _, _, _, _, _, _, h => nomatch h
  | .bl _, .ty _, _, _, _, _, _, _, _, _, _, h => nomatch h
  | .int _, .ty _, _, _, _, _, _, _, _, _, _, h => nomatch h
  | .str _, .ty _, _, _, _, _, _, _, _, _, _, h => nomatch h
  | .tup _, .ty _, _, _, _, _, _, _, _, _, _, h => nomatch h
  | .lst _, .ty _, _, _, _, _, _, _, _, _, _, h => nomatch h
  | .scr _, u2, _, _, _, _, _, _, _, _, _, h => by cases u2 <;> cases h
  | .non, .scr _, _, _, _, _, _, _, _, _, _, h => nomatch h
  | .bl _, .scr _, _, _, _, _, _, _, _, _, _, h => nomatch h
  | .int _, .scr _, _, _, _, _, _, _, _, _, _, h => nomatch h
  | .str _, .scr _, _, _, _, _, _, _, _, _, _, h => nomatch h
  | .tup _, .scr _, _, _, _, _, _, _, _, _, _, h => nomatch h
  | .lst _, .scr _, _, _, _, _, _, _, _, _, _, h => nomatch h
def eqZ (f : U → U → Option Bool) : List U → List U → Option Bool
  | u :: us, v :: vs => match f u v, eqZ f us vs with
    | some a, some b => some (a && b)
    | _, _ => none
  | _, _ => some true
def eqF : Nat → U → U → Option Bool
  | 0, _, _ => none
  | n + 1, .tup us, .tup vs => (eqZ (eqF n) us vs).map (fun b => b && decide (us.length = vs.length))
  | n + 1, .lst us, .lst vs => if us.length = vs.length then eqZ (eqF n) us vs else some false
  | _ + 1, u, v => eqP u v
theorem eqZ_get {f : U → U → Option Bool} : ∀ {us vs : List U} {b : Bool}, eqZ f us vs = some b → ∀ (j : Nat) (u v : U), us[j]? = some u → vs[j]? = some v → ∃ c, f u v = some c ∧ (b = true → c = true)
  | [], _, _, _, _, _, _, e, _ => by simp at e
  | _ :: _, [], _, _, _, _, _, _, e => by simp at e
  | u :: us, v :: vs, b, h, j, u', v', e1, e2 => by
    unfold eqZ at h
    split at h
    · rename_i a c ha hc
      cases h
      cases j with
      | zero =>
        simp at e1 e2; subst e1; subst e2
        exact ⟨a, ha, fun z => (Bool.and_eq_true_iff.mp z).1⟩
      | succ j =>
        obtain ⟨d, h1, h2⟩ := eqZ_get hc j u' v' (by simpa using e1) (by simpa using e2)
        exact ⟨d, h1, fun z => h2 (Bool.and_eq_true_iff.mp z).2⟩
    · cases h
theorem eqZ_all {f : U → U → Option Bool} : ∀ {us vs : List U} {b : Bool}, eqZ f us vs = some b → (∀ (j : Nat) (u v : U), us[j]? = some u → vs[j]? = some v → f u v = some true) → b = true
  | [], _, _, h, _ => by unfold eqZ at h; cases h; rfl
  | _ :: _, [], _, h, _ => by unfold eqZ at h; cases h; rfl
  | u :: us, v :: vs, b, h, k => by
    unfold eqZ at h
    split at h
    · rename_i a c ha hc
      cases h
      have h1 := k 0 u v rfl rfl
      rw [ha] at h1; cases h1
      have h2 := eqZ_all hc fun j u' v' e1 e2 => k (j + 1) u' v' (by simpa using e1) (by simpa using e2)
      subst h2; rfl
    · cases h
theorem eqF_mix (n : Nat) (u w : U) (h1 : ¬ ∃ us vs, u = .tup us ∧ w = .tup vs) (h2 : ¬ ∃ us vs, u = .lst us ∧ w = .lst vs) : eqF (n + 1) u w = eqP u w := by
  unfold eqF
  split
  · rename_i h; cases h
  · exact (h1 ⟨_, _, rfl, rfl⟩).elim
  · exact (h2 ⟨_, _, rfl, rfl⟩).elim
  · rfl
section
variable {X : Cx} {pins : List (Addr × Obj)} {sg : L2.St} {H : Hp} {s : Shared} {W : Addr → Prop} {io : List Addr}
theorem eqP_same (I : Inv X pins sg H s) : ∀ (u w : U) {x : V} {b : Bool}, Rep X.K W io H u x → Rep X.K W io H w x → eqP u w = some b → b = true := by
  intro u w x b r1 r2 e
  cases u with
  | non =>
    have e1 := r1.non'; subst e1
    cases w <;> first | (cases e; rfl) | cases e
    · cases r2.bl'
    · cases r2.int'
    · cases r2.str'
    · obtain ⟨_, _, z, _⟩ := r2.tup'; cases z
    · obtain ⟨_, _, z, _⟩ := r2.lst'; cases z
  | bl c =>
    have e1 := r1.bl'; subst e1
    cases w with
    | bl d => cases r2.bl'; cases e; simp
    | non => cases r2.non'
    | int i => cases r2.int'
    | str i => cases r2.str'
    | tup us => obtain ⟨_, _, z, _⟩ := r2.tup'; cases z
    | lst us => obtain ⟨_, _, z, _⟩ := r2.lst'; cases z
    | _ => cases e
  | int c =>
    have e1 := r1.int'; subst e1
    cases w with
    | int d => cases r2.int'; cases e; simp
    | non => cases r2.non'
    | bl i => cases r2.bl'
    | str i => cases r2.str'
    | tup us => obtain ⟨_, _, z, _⟩ := r2.tup'; cases z
    | lst us => obtain ⟨_, _, z, _⟩ := r2.lst'; cases z
    | _ => cases e
  | str c =>
    have e1 := r1.str'; subst e1
    cases w with
    | str d => cases r2.str'; cases e; simp
    | non => cases r2.non'
    | bl i => cases r2.bl'
    | int i => cases r2.int'
    | tup us => obtain ⟨_, _, z, _⟩ := r2.tup'; cases z
    | lst us => obtain ⟨_, _, z, _⟩ := r2.lst'; cases z
    | _ => cases e
  | tup us =>
    obtain ⟨a, vs, e1, l, _⟩ := r1.tup'; subst e1
    cases w with
    | non => cases r2.non'
    | bl i => cases r2.bl'
    | int i => cases r2.int'
    | str i => cases r2.str'
    | lst us =>
      obtain ⟨_, _, z, l2, _⟩ := r2.lst'; cases z
      obtain ⟨_, _, h1, _⟩ := I.tuple l.sq
      obtain ⟨_, _, h2, _⟩ := I.list l2.sq
      exact (SeqAt.ne_of_list_tuple h2.isList h1 rfl).elim
    | _ => cases e
  | lst us =>
    obtain ⟨a, vs, e1, l, _⟩ := r1.lst'; subst e1
    cases w with
    | non => cases r2.non'
    | bl i => cases r2.bl'
    | int i => cases r2.int'
    | str i => cases r2.str'
    | tup us =>
      obtain ⟨_, _, z, l2, _⟩ := r2.tup'; cases z
      obtain ⟨_, _, h1, _⟩ := I.tuple l2.sq
      obtain ⟨_, _, h2, _⟩ := I.list l.sq
      exact (SeqAt.ne_of_list_tuple h2.isList h1 rfl).elim
    | _ => cases e
  | _ => cases w <;> cases e
theorem eqZ_same {f : U → U → Option Bool} {us ws : List U} {vs : List V} {b : Bool} (r1 : Reps X.K W io H us vs) (r2 : Reps X.K W io H ws vs) (ih : ∀ (u w : U) (x : V) (b : Bool), Rep X.K W io H u x → Rep X.K W io H w x → f u w = some b → b = true) (h : eqZ f us ws = some b) : b = true := by
  refine eqZ_all h fun j u v e1 e2 => ?_
  obtain ⟨c, h1, _⟩ := eqZ_get h j u v e1 e2
  obtain ⟨x, g1, p1⟩ := r1.get e1
  obtain ⟨y, g2, p2⟩ := r2.get e2
  rw [g1] at g2; cases g2
  rw [h1, ih u v x c p1 p2 h1]
theorem eqF_same (I : Inv X pins sg H s) : ∀ (n : Nat) (u w : U) (x : V) (b : Bool), Rep X.K W io H u x → Rep X.K W io H w x → eqF n u w = some b → b = true
  | 0, _, _, _, _, _, _, h => by unfold eqF at h; cases h
  | n + 1, u, w, x, b, r1, r2, h => by
    by_cases h1 : ∃ us vs, u = .tup us ∧ w = .tup vs
    · obtain ⟨us, ws, rfl, rfl⟩ := h1
      obtain ⟨a, vs, e1, l, p1⟩ := r1.tup'; subst e1
      obtain ⟨_, _, z, l2, p2⟩ := r2.tup'; cases z
      have e := I.tuple_inj l.sq l2.sq; subst e
      unfold eqF at h
      cases q : eqZ (eqF n) us ws with
      | none => rw [q] at h; cases h
      | some c =>
        rw [q] at h; cases h
        rw [eqZ_same p1 p2 (fun u w x b => eqF_same I n u w x b) q, p1.length, p2.length]
        simp
    · by_cases h2 : ∃ us vs, u = .lst us ∧ w = .lst vs
      · obtain ⟨us, ws, rfl, rfl⟩ := h2
        obtain ⟨a, vs, e1, l, p1⟩ := r1.lst'; subst e1
        obtain ⟨_, _, z, l2, p2⟩ := r2.lst'; cases z
        have e := I.list_inj l.sq l2.sq; subst e
        unfold eqF at h
        rw [if_pos (by rw [p1.length, p2.length])] at h
        exact eqZ_same p1 p2 (fun u w x b => eqF_same I n u w x b) h
      · rw [eqF_mix n u w h1 h2] at h
        exact eqP_same I u w r1 r2 h
def eT (f : U → U → Option Bool) (us ws : List U) (j : Nat) : Bool := decide (f (us.getD j .non) (ws.getD j .non) = some true)
theorem eT_get {f : U → U → Option Bool} {us ws : List U} {j : Nat} {u w : U} {b : Bool} (h1 : us[j]? = some u) (h2 : ws[j]? = some w) (h : f u w = some b) : eT f us ws j = b := by
  unfold eT
  rw [List.getD_eq_getElem?_getD, List.getD_eq_getElem?_getD, h1, h2, Option.getD_some, Option.getD_some, h]
  cases b <;> simp
theorem eT_all {f : U → U → Option Bool} : ∀ {us ws : List U} {b : Bool}, eqZ f us ws = some b → (List.range (min us.length ws.length)).all (eT f us ws) = b
  | us, ws, b, h => by
    cases b with
    | true =>
      rw [List.all_eq_true]
      intro j hj
      have hj := List.mem_range.mp hj
      have l1 : j < us.length := by omega
      have l2 : j < ws.length := by omega
      obtain ⟨c, h1, h2⟩ := eqZ_get h j us[j] ws[j] (List.getElem?_eq_getElem l1) (List.getElem?_eq_getElem l2)
      rw [eT_get (List.getElem?_eq_getElem l1) (List.getElem?_eq_getElem l2) h1, h2 rfl]
    | false =>
      cases q : (List.range (min us.length ws.length)).all (eT f us ws) with
      | false => rfl
      | true =>
        rw [List.all_eq_true] at q
        exact absurd (eqZ_all h fun j u v e1 e2 => by
          obtain ⟨c, h1, _⟩ := eqZ_get h j u v e1 e2
          have := q j (List.mem_range.mpr (by have := (List.getElem?_eq_some_iff.mp e1).1; have := (List.getElem?_eq_some_iff.mp e2).1; omega))
          rw [eT_get e1 e2 h1] at this
          rw [h1, this]) (by decide)
theorem items_at {f : U → U → Option Bool} {A : Around} {us ws : List U} {vs xs : List V} {its jts : List Value} {b : Bool} (r1 : Reps X.K W io H us vs) (r2 : Reps X.K W io H ws xs) (v1 : Vals vs its) (v2 : Vals xs jts)
    (ih : ∀ (u w : U) (x y : V) (v v' : Value) (b : Bool), Rep X.K W io H u x → Rep X.K W io H w y → RelV x v → RelV y v' → f u w = some b → SeqAt.EqAt A s v v' b) (h : eqZ f us ws = some b) :
    ∀ j (h1 : j < its.toArray.size) (h2 : j < jts.toArray.size), SeqAt.EqAt A s its.toArray[j] jts.toArray[j] (eT f us ws j) := by
  intro j h1 h2
  have l1 : j < its.length := by simpa using h1
  have l2 : j < jts.length := by simpa using h2
  have k1 : j < us.length := by rw [r1.length, v1.length]; exact l1
  have k2 : j < ws.length := by rw [r2.length, v2.length]; exact l2
  obtain ⟨c, q1, _⟩ := eqZ_get h j us[j] ws[j] (List.getElem?_eq_getElem k1) (List.getElem?_eq_getElem k2)
  obtain ⟨x, g1, p1⟩ := r1.get (List.getElem?_eq_getElem k1)
  obtain ⟨y, g2, p2⟩ := r2.get (List.getElem?_eq_getElem k2)
  obtain ⟨v, m1, n1⟩ := v1.get g1
  obtain ⟨v', m2, n2⟩ := v2.get g2
  rw [eT_get (List.getElem?_eq_getElem k1) (List.getElem?_eq_getElem k2) q1]
  have a1 : its.toArray[j] = v := by
    have := List.getElem?_eq_getElem l1
    rw [m1] at this
    simpa using (Option.some.inj this).symm
  have a2 : jts.toArray[j] = v' := by
    have := List.getElem?_eq_getElem l2
    rw [m2] at this
    simpa using (Option.some.inj this).symm
  rw [a1, a2]
  exact ih _ _ x y v v' c p1 p2 n1 n2 q1
/-- the seqs' part, for == and for != -/
structure Seqs (A : Around) (s : Shared) (f : Bool → Bool) (R : Value → Value → Bool → Prop) : Prop where
  tuples : ∀ {l b : Addr} {items items2 : Array Value} {e : Nat → Bool}, s.heap.IsTuple l items → s.heap.IsTuple b items2 → (∀ j (h1 : j < items.size) (h2 : j < items2.size), SeqAt.EqAt A.in1 s items[j] items2[j] (e j)) → R (.ref l) (.ref b) (f ((List.range (min items.size items2.size)).all e && items.size == items2.size))
  lists : ∀ {l b : Addr} {items items2 : Array Value} {e : Nat → Bool}, s.heap.IsList l items → s.heap.IsList b items2 → items.size = items2.size → (∀ j (h1 : j < items.size) (h2 : j < items2.size), SeqAt.EqAt A.in1 s items[j] items2[j] (e j)) → R (.ref l) (.ref b) (f ((List.range items.size).all e))
  lengths : ∀ {l b : Addr} {items items2 : Array Value}, s.heap.IsList l items → s.heap.IsList b items2 → (items.size != items2.size) = true → R (.ref l) (.ref b) (f false)
theorem seqs_rc {A : Around} (hu : A.units < cLine) : Seqs A s id (SeqAt.RcAt A s) := ⟨fun h1 h2 h => SeqAt.RcAt.tuples h1 h2 hu h, fun h1 h2 hz h => SeqAt.RcAt.lists h1 h2 hz hu h, fun h1 h2 hz => SeqAt.RcAt.lists_lengths h1 h2 hz hu⟩
theorem seqs_rn {A : Around} (hu : A.units < cLine) : Seqs A s Bool.not (SeqAt.RcNeAt A s) := ⟨fun h1 h2 h => SeqAt.RcNeAt.tuples h1 h2 hu h, fun h1 h2 hz h => SeqAt.RcNeAt.lists h1 h2 hz hu h, fun h1 h2 hz => SeqAt.RcNeAt.lists_lengths h1 h2 hz hu⟩
theorem eqF_step (I : Inv X pins sg H s) {n : Nat} {A : Around} {f : Bool → Bool} {R : Value → Value → Bool → Prop} (P : Pairs A s f R) (S : Seqs A s f R)
    (ih : ∀ (u w : U) (x y : V) (v v' : Value) (b : Bool), Rep X.K W io H u x → Rep X.K W io H w y → RelV x v → RelV y v' → eqF n u w = some b → SeqAt.EqAt A.in1 s v v' b)
    {u w : U} {x y : V} {v v' : Value} {b : Bool} (r1 : Rep X.K W io H u x) (r2 : Rep X.K W io H w y) (rv1 : RelV x v) (rv2 : RelV y v') (h : eqF (n + 1) u w = some b) : R v v' (f b) := by
  by_cases h1 : ∃ us vs, u = .tup us ∧ w = .tup vs
  · obtain ⟨us, ws, rfl, rfl⟩ := h1
    obtain ⟨a, vs, e1, l, p1⟩ := r1.tup'; subst e1
    obtain ⟨a', xs, e2, l2, p2⟩ := r2.tup'; subst e2
    cases (show v = Value.ref a from rv1)
    cases (show v' = Value.ref a' from rv2)
    obtain ⟨its, w1, t1, _⟩ := I.tuple l.sq
    obtain ⟨jts, w2, t2, _⟩ := I.tuple l2.sq
    unfold eqF at h
    cases q : eqZ (eqF n) us ws with
    | none => rw [q] at h; cases h
    | some c =>
      rw [q] at h; cases h
      have := S.tuples (e := eT (eqF n) us ws) t1 t2 (items_at p1 p2 w1 w2 ih q)
      rw [List.size_toArray, List.size_toArray, ← w1.length, ← w2.length, ← p1.length, ← p2.length, eT_all q] at this
      have e : (us.length == ws.length) = decide (us.length = ws.length) := by
        by_cases z : us.length = ws.length <;> simp [z]
      rw [e] at this
      exact this
  · by_cases h2 : ∃ us vs, u = .lst us ∧ w = .lst vs
    · obtain ⟨us, ws, rfl, rfl⟩ := h2
      obtain ⟨a, vs, e1, l, p1⟩ := r1.lst'; subst e1
      obtain ⟨a', xs, e2, l2, p2⟩ := r2.lst'; subst e2
      cases (show v = Value.ref a from rv1)
      cases (show v' = Value.ref a' from rv2)
      obtain ⟨its, w1, t1, _⟩ := I.list l.sq
      obtain ⟨jts, w2, t2, _⟩ := I.list l2.sq
      have z1 : its.toArray.size = us.length := by rw [List.size_toArray, ← w1.length, ← p1.length]
      have z2 : jts.toArray.size = ws.length := by rw [List.size_toArray, ← w2.length, ← p2.length]
      unfold eqF at h
      split at h
      · rename_i hz
        have := S.lists (e := eT (eqF n) us ws) t1.isList t2.isList (by rw [z1, z2, hz]) (items_at p1 p2 w1 w2 ih h)
        rw [z1] at this
        have e := eT_all h
        rw [← hz, Nat.min_self] at e
        rw [e] at this
        exact this
      · rename_i hz
        cases h
        exact S.lengths t1.isList t2.isList (by rw [z1, z2]; simpa using hz)
    · rw [eqF_mix n u w h1 h2] at h
      exact pairs_at I P u w r1 r2 rv1 rv2 h
theorem eqF_at (I : Inv X pins sg H s) : ∀ (n : Nat) (A : Around), A.units + n < cLine → ∀ (u w : U) (x y : V) (v v' : Value) (b : Bool), Rep X.K W io H u x → Rep X.K W io H w y → RelV x v → RelV y v' → eqF n u w = some b → SeqAt.EqAt A s v v' b
  | 0, _, _, _, _, _, _, _, _, _, _, _, _, _, h => by unfold eqF at h; cases h
  | n + 1, A, hu, u, w, x, y, v, v', b, r1, r2, rv1, rv2, h => by
    have ih := eqF_at I n A.in1 (by show A.units + 1 + n < cLine; omega)
    by_cases hx : (∃ a c, x = .ref a ∧ y = .ref c)
    · obtain ⟨a, c, rfl, rfl⟩ := hx
      cases (show v = Value.ref a from rv1)
      cases (show v' = Value.ref c from rv2)
      by_cases e : a = c
      · subst e
        rw [eqF_same I (n + 1) u w (.ref a) b r1 r2 h]
        exact SeqAt.EqAt.same _
      · exact SeqAt.EqAt.of_refs e (eqF_step I (pairs_rc (by omega)) (seqs_rc (by omega)) ih r1 r2 rv1 rv2 h)
    · rw [eqF_mix n u w (fun ⟨us, vs, e1, e2⟩ => hx (by
        subst e1; subst e2
        obtain ⟨a, _, z1, _⟩ := r1.tup'
        obtain ⟨c, _, z2, _⟩ := r2.tup'
        exact ⟨a, c, z1, z2⟩)) (fun ⟨us, vs, e1, e2⟩ => hx (by
        subst e1; subst e2
        obtain ⟨a, _, z1, _⟩ := r1.lst'
        obtain ⟨c, _, z2, _⟩ := r2.lst'
        exact ⟨a, c, z1, z2⟩))] at h
      exact pairs_at I (pairs_eq (by omega)) u w r1 r2 rv1 rv2 h
end
def eq2 (u v : U) : Option U := (eqF 60 u v).map U.bl
def ne2 (u v : U) : Option U := (eqF 60 u v).map fun b => U.bl (!b)
section
variable {X : Cx}
theorem o_eq (hu : X.A.units + 64 < cLine) : OpR X (compareOp .Eq) (P2 X.K eq2) := by
  intro pins s sg H x y v u Q I rx ry h
  obtain ⟨G, io, st, u1, u2, u3, ok, r1, r2, e, q⟩ := h
  unfold eq2 at e
  cases z : eqF 60 u1 u2 with
  | none => rw [z] at e; cases e
  | some b =>
    rw [z] at e; cases e
    exact eqF_step (n := 59) I (pairs_rc (by omega)) (seqs_rc (by omega)) (eqF_at I 59 X.A.in1 (by show X.A.units + 1 + 59 < cLine; omega)) r1 r2 rx ry z _ _ _ _ ⟨.bl b, H, I, rfl, q _ H (Same.refl H) (rBl _)⟩
theorem o_ne (hu : X.A.units + 64 < cLine) : OpR X (compareOp .NotEq) (P2 X.K ne2) := by
  intro pins s sg H x y v u Q I rx ry h
  obtain ⟨G, io, st, u1, u2, u3, ok, r1, r2, e, q⟩ := h
  unfold ne2 at e
  cases z : eqF 60 u1 u2 with
  | none => rw [z] at e; cases e
  | some b =>
    rw [z] at e; cases e
    exact eqF_step (n := 59) I (pairs_rn (by omega)) (seqs_rn (by omega)) (eqF_at I 59 X.A.in1 (by show X.A.units + 1 + 59 < cLine; omega)) r1 r2 rx ry z _ _ _ _ ⟨.bl (!b), H, I, rfl, q _ H (Same.refl H) (rBl _)⟩
end
end D
namespace D
open PySem L2
open AutoSeq1 (wpAny_loadPart')
theorem str_eq_declines_dict (b : Str) (u : Tok) (l : Addr) (c : Value) (es : Array DictEntry) (n : Nat) (dd : Option Addr) (sl : Array (Option Value)) :
    Meets (Builtin.«str.__eq__» ⟨[.str b u, .ref l], []⟩) (fun _ R s => s.heap.get? l = some { cls := c, dict := dd, data := .dict es n, slots := sl } ∧ R (.ok (.ret .notImplemented)) s) :=
  .of_wp fun prog w A R s h => by obtain ⟨hp, g, d, tk, os⟩ := s; obtain ⟨hl, h⟩ := h; wp_walk using wpAny_loadPart' hl, wpAny_load hl; exact ⟨_, rfl, h⟩
theorem dict_eq_declines_str {prog : Program} {w : World} {A : Around} {E : Value → Shared → Prop} {s : Shared} (b : Str) (u : Tok) (l : Addr) (hT : s.TypeIs (.ref l) "dict") (Q : Value → Shared → Prop) (h : Q .notImplemented s) :
    wpAny (model prog w) A (call (.builtin "dict.__eq__") [.ref l, .str b u]) Q E s := by
  refine wpAny_call_entry PySem.F.slot_dict_eq_refl hT PySem.F.entry_dict_eq ?_ (PySem.F.args_dict_eq_2 _ _)
  show wpAny _ _ (Builtin.Dict.dictSlotArgs "__eq__" ⟨[.ref l, .str b u], []⟩ >>= _) _ _ s
  refine wpAny_bind ?_
  unfold Builtin.Dict.dictSlotArgs
  refine wpAny_bind (wpAny_notOrdered_dict hT ?_)
  show wpAny _ _ (pure (Value.ref l, Value.str b u)) _ _ s
  refine wpAny_pure ?_
  refine wpAny_bind (wpAny_isInstance (T := "str") (typeIs_str s b u) PySem.F.sub_str_dict ?_)
  simp only [Bool.not_false, if_true]
  refine wpAny_bind (wpAny_rule ?_)
  exact wpAny_pure ⟨_, rfl, h⟩
theorem rc_str_dict {A : Around} {s : Shared} {l : Addr} {o : Obj} {es : Array DictEntry} {n : Nat} (ho : s.heap.get? l = some o) (hc : o.cls = .type "dict") (hd : o.data = .dict es n) (b : Str) (u : Tok) (hu : A.units < cLine) : SeqAt.RcAt A s (.str b u) (.ref l) false := fun prog w E Q h => by
  obtain ⟨cls, dd, data, sl⟩ := o
  simp only at hc hd
  subst hc hd
  have hT : s.TypeIs (.ref l) "dict" := ⟨_, ho, rfl⟩
  exact SeqAt.rc_eq_decline_or (k := false) (typeIs_str s b u) hT (by decide) F.sub_dict_str F.slot_str_eq F.slot_dict_eq_refl
    (fun _ hq => call_meets F.slot_str_eq (typeIs_str s b u) F.entry_str_eq (F.args_str_eq_2 _ _) (str_eq_declines_dict b u l (.type "dict") es n dd sl) ⟨ho, hq⟩)
    (fun _ hq => dict_eq_declines_str b u l hT _ hq)
    (fun _ hq => wpAny_of_eq (rfl : isSame (.str b u) (.ref l) = pure false) hq) (.inr hu) h
theorem eq_str_dict {A : Around} {s : Shared} {l : Addr} {o : Obj} {es : Array DictEntry} {n : Nat} (ho : s.heap.get? l = some o) (hc : o.cls = .type "dict") (hd : o.data = .dict es n) (b : Str) (u : Tok) (hu : A.units < cLine) : SeqAt.EqAt A s (.str b u) (.ref l) false := fun prog w E Q h => by
  unfold eqBool
  refine wpAny_holding ?_
  refine wpAny_ite_split (fun hab => absurd (eq_of_beq hab) nofun) (fun _ => ?_)
  exact wpAny_bind (rc_str_dict ho hc hd b u hu prog w E _ (wpAny_truthy_bool h))
/-- tuples, lists, dicts -/
def boxU : U → Bool
  | .tup _ => true
  | .lst _ => true
  | .dct _ _ => true
  | _ => false
def strU : U → Bool
  | .str _ => true
  | _ => false
section
variable {X : Cx} {pins : List (Addr × Obj)} {sg : St} {W : Addr → Prop} {io : List Addr} {H : Hp} {s : Shared} {A : Around}
theorem eq_str_box (I : Inv X pins sg H s) (hu : A.units < cLine) {x : U} {v : V} {r : Value} (hb : boxU x = true) (hr : Rep X.K W io H x v) (hv : RelV v r) (b : Str) (u : Tok) : SeqAt.EqAt A s (.str b u) r false := by
  cases x with
  | tup us =>
    obtain ⟨a, vs, rfl, l, _⟩ := hr.tup'
    cases hv
    obtain ⟨its, _, pl, _⟩ := I.tuple l.sq
    exact SeqAt.EqAt.str_tuple b u pl hu
  | lst us =>
    obtain ⟨a, vs, rfl, l, _⟩ := hr.lst'
    cases hv
    obtain ⟨its, _, pl, _⟩ := I.list l.sq
    exact SeqAt.EqAt.str_list b u pl.isList hu
  | dct ks us =>
    unfold Rep at hr
    obtain ⟨a, vs, rfl, l, _⟩ := hr
    cases hv
    rcases l.2 with ⟨kvs, e, _⟩ | ⟨kvs, e, _⟩
    · obtain ⟨_, _, vs, _, ob, es, ep, h1, h2, h3, _⟩ := dk_rd I.hok e
      exact eq_str_dict h1 h2.1 h3 b u hu
    · obtain ⟨_, _, vs, _, ob, es, ep, h1, h2, h3, _⟩ := dt_rd I.hok (.inl e)
      exact eq_str_dict h1 h2.1 h3 b u hu
  | _ => cases hb
theorem eq_strs_box (I : Inv X pins sg H s) (hu : A.units < cLine) {x : U} {v : V} {r : Value} (hb : boxU x = true) (hr : Rep X.K W io H x v) (hv : RelV v r) : ∀ {us : List U} {vs : List V} {rs : List Value}, us.all strU = true → Reps X.K W io H us vs → Vals vs rs → ∀ w ∈ rs, SeqAt.EqAt A s w r false
  | [], _, _, _, h, hs => fun w hw => by rw [h.isNil] at hs; cases hs; cases hw
  | u :: us, _, _, f, h, hs => fun w hw => by
    obtain ⟨v', r', rfl, q, t⟩ := h.uncons
    rw [List.all_cons, Bool.and_eq_true] at f
    cases hs with
    | cons ry rt =>
      rcases List.mem_cons.mp hw with rfl | hw
      · cases u with
        | str z => rw [q.str'] at ry; obtain ⟨t', rfl⟩ := ry; exact eq_str_box I hu hb hr hv z t'
        | _ => cases f.1
      · exact eq_strs_box I hu hb hr hv f.2 t rt w hw
end
section
variable {X : Cx} {W : Addr → Prop} {io : List Addr}
theorem op_in_box (hu : X.A.units + 65 < cLine) {pins s sg H x y v u} {Q : VK} (I : Inv X pins sg H s) (rx : RelV x v) (ry : RelV y u) {u1 : U} {us : List U} {a : Addr} {vs : List V} (hb : boxU u1 = true) (r1 : Rep X.K W io H u1 x) (hy : y = .ref a) (hq : SqL X.K H a vs ∨ SqT X.K H a vs) (hs : us.all strU = true) (rs : Reps X.K W io H us vs) (q : Q (.bl false) H) :
    wpAny (model X.prog X.w) X.A (compareOp .In v u) (EP X pins sg Q) X.xe s := by
  subst hy
  cases ry
  rcases hq with hq | hq
  · obtain ⟨its, r, pl, hz⟩ := I.list hq
    refine SeqAt.in_listAt (fun _ => false) pl.isList (fun w hw => eq_strs_box I (by show X.A.units + 1 < cLine; omega) hb r1 rx hs rs r w (by simpa using hw)) ⟨.bl _, H, I, rfl, ?_⟩
    rw [show its.toArray.any (fun _ => false) = false by simp]
    exact q
  · obtain ⟨its, r, pl, hz⟩ := I.tuple hq
    refine SeqAt.in_tupleAt (fun _ => false) pl (fun w hw => eq_strs_box I (by show X.A.units + 1 < cLine; omega) hb r1 rx hs rs r w (by simpa using hw)) ⟨.bl _, H, I, rfl, ?_⟩
    rw [show its.toArray.any (fun _ => false) = false by simp]
    exact q
theorem op_nin_box (hu : X.A.units + 65 < cLine) {pins s sg H x y v u} {Q : VK} (I : Inv X pins sg H s) (rx : RelV x v) (ry : RelV y u) {u1 : U} {us : List U} {a : Addr} {vs : List V} (hb : boxU u1 = true) (r1 : Rep X.K W io H u1 x) (hy : y = .ref a) (hq : SqL X.K H a vs ∨ SqT X.K H a vs) (hs : us.all strU = true) (rs : Reps X.K W io H us vs) (q : Q (.bl true) H) :
    wpAny (model X.prog X.w) X.A (compareOp .NotIn v u) (EP X pins sg Q) X.xe s := by
  subst hy
  cases ry
  rcases hq with hq | hq
  · obtain ⟨its, r, pl, hz⟩ := I.list hq
    refine SeqAt.notIn_listAt (fun _ => false) pl.isList (fun w hw => eq_strs_box I (by show X.A.units + 1 < cLine; omega) hb r1 rx hs rs r w (by simpa using hw)) ⟨.bl _, H, I, rfl, ?_⟩
    rw [show its.toArray.any (fun _ => false) = false by simp]
    exact q
  · obtain ⟨its, r, pl, hz⟩ := I.tuple hq
    refine SeqAt.notIn_tupleAt (fun _ => false) pl (fun w hw => eq_strs_box I (by show X.A.units + 1 < cLine; omega) hb r1 rx hs rs r w (by simpa using hw)) ⟨.bl _, H, I, rfl, ?_⟩
    rw [show its.toArray.any (fun _ => false) = false by simp]
    exact q
end
end D
namespace D
open PySem L2
mutual
def pd : U → PyData
  | .non => .none
  | .bl b => .bool b
  | .int i => .int i
  | .str x => .str x
  | .tup us => .tuple (pds us)
  | .lst us => .list (pds us)
  | .dct _ _ => .dict []
  | .ref _ => .dict []
  | .ty _ => .dict []
  | .scr _ => .dict []
def pds : List U → List PyData
  | [] => []
  | u :: us => pd u :: pds us
end
mutual
theorem Rep.dp {K : PySem.W.Frag} {W : Addr → Prop} {io : List Addr} {H : Hp} : ∀ (u : U) (v : V), Rep K W io H u v → (pd u).canLay0 = true → Dp K H v (pd u)
  | .non, v, h, _ => by rw [h.non']; exact .non
  | .bl b, v, h, _ => by rw [h.bl']; exact .bl b
  | .int i, v, h, _ => by rw [h.int']; exact .int i
  | .str x, v, h, _ => by rw [h.str']; exact .str x
  | .tup us, v, h, c => by
    obtain ⟨a, vs, rfl, l, r⟩ := h.tup'
    unfold pd
    exact .tup l.sq (Reps.dp us vs r (by unfold pd PyData.canLay0 at c; exact c))
  | .lst us, v, h, c => by
    obtain ⟨a, vs, rfl, l, r⟩ := h.lst'
    unfold pd
    exact .lst l.sq (Reps.dp us vs r (by unfold pd PyData.canLay0 at c; exact c))
  | .dct _ _, v, h, c => by unfold pd PyData.canLay0 at c; cases c
  | .ref _, v, h, c => by unfold pd PyData.canLay0 at c; cases c
  | .ty _, v, h, c => by unfold pd PyData.canLay0 at c; cases c
  | .scr _, v, h, c => by unfold pd PyData.canLay0 at c; cases c
theorem Reps.dp {K : PySem.W.Frag} {W : Addr → Prop} {io : List Addr} {H : Hp} : ∀ (us : List U) (vs : List V), Reps K W io H us vs → PyData.canLayAll0 (pds us) = true → DpAll K H vs (pds us)
  | [], vs, h, _ => by rw [h.isNil]; exact .nil
  | u :: us, vs, h, c => by
    obtain ⟨v, r, rfl, q, t⟩ := h.uncons
    unfold pds PyData.canLayAll0 at c
    rw [Bool.and_eq_true] at c
    exact .cons (Rep.dp u v q c.1) (Reps.dp us r t c.2)
end
def okD (u : U) : Bool := SeqAt.shaped (pd u)
def eqU (u v : U) : Bool := PyData.eqv (pd u) (pd v)
def is2 : U → U → Option U
  | .non, .non => some (.bl true)
  | .bl _, .non => some (.bl false)
  | .int _, .non => some (.bl false)
  | .str _, .non => some (.bl false)
  | .tup _, .non => some (.bl false)
  | .lst _, .non => some (.bl false)
  | .dct _ _, .non => some (.bl false)
  | .ref _, .non => some (.bl false)
  | .bl a, .bl b => some (.bl (decide (a = b)))
  | _, _ => none
def isnot2 : U → U → Option U
  | .non, .non => some (.bl false)
  | .bl _, .non => some (.bl true)
  | .int _, .non => some (.bl true)
  | .str _, .non => some (.bl true)
  | .tup _, .non => some (.bl true)
  | .lst _, .non => some (.bl true)
  | .dct _ _, .non => some (.bl true)
  | .ref _, .non => some (.bl true)
  | .bl a, .bl b => some (.bl (!decide (a = b)))
  | _, _ => none
def flatU : U → Bool
  | .non => true
  | .bl _ => true
  | .int _ => true
  | .str _ => true
  | _ => false
def in2 : U → U → Option U
  | .str x, .str y => if x.cps.size = 1 then some (.bl (decide (x.cps.getD 0 0 ∈ y.cps.toList))) else none
  | x, .tup ys => if flatU x && ys.all flatU then some (.bl (ys.any fun y => eqU y x)) else if boxU x && ys.all strU then some (.bl false) else none
  | x, .lst ys => if flatU x && ys.all flatU then some (.bl (ys.any fun y => eqU y x)) else if boxU x && ys.all strU then some (.bl false) else if okD x && okD (.lst ys) then some (.bl (ys.any fun y => eqU y x)) else none
  | _, _ => none
def nin2 : U → U → Option U
  | .str x, .str y => if x.cps.size = 1 then some (.bl (!decide (x.cps.getD 0 0 ∈ y.cps.toList))) else none
  | x, .tup ys => if flatU x && ys.all flatU then some (.bl (!ys.any fun y => eqU y x)) else if boxU x && ys.all strU then some (.bl true) else none
  | x, .lst ys => if flatU x && ys.all flatU then some (.bl (!ys.any fun y => eqU y x)) else if boxU x && ys.all strU then some (.bl true) else if okD x && okD (.lst ys) then some (.bl (!ys.any fun y => eqU y x)) else none
  | _, _ => none
section
variable {K : PySem.W.Frag} {W : Addr → Prop} {io : List Addr} {H : Hp}
theorem flat_rep {u : U} {v : V} (f : flatU u = true) (h : Rep K W io H u v) : flatV v = true := by
  cases u with
  | non => rw [h.non']; rfl
  | bl b => rw [h.bl']; rfl
  | int b => rw [h.int']; rfl
  | str b => rw [h.str']; rfl
  | _ => cases f
theorem flats_rep : ∀ {us : List U} {vs : List V}, us.all flatU = true → Reps K W io H us vs → vs.all flatV = true
  | [], _, _, h => by rw [h.isNil]; rfl
  | u :: us, _, f, h => by
    obtain ⟨v, r, rfl, q, t⟩ := h.uncons
    rw [List.all_cons, Bool.and_eq_true] at f
    rw [List.all_cons, flat_rep f.1 q, flats_rep f.2 t]; rfl
theorem eqV_rep {u w : U} {x y : V} (f : flatU u = true) (f' : flatU w = true) (h : Rep K W io H u x) (h' : Rep K W io H w y) : eqV x y = eqU u w := by
  cases u with
  | non =>
    rw [h.non']
    cases w with
    | non => rw [h'.non']; rfl
    | bl b => rw [h'.bl']; rfl
    | int b => rw [h'.int']; rfl
    | str b => rw [h'.str']; rfl
    | _ => cases f'
  | bl a =>
    rw [h.bl']
    cases w with
    | non => rw [h'.non']; rfl
    | bl b => rw [h'.bl']; rfl
    | int b => rw [h'.int']; rfl
    | str b => rw [h'.str']; rfl
    | _ => cases f'
  | int a =>
    rw [h.int']
    cases w with
    | non => rw [h'.non']; rfl
    | bl b => rw [h'.bl']; rfl
    | int b => rw [h'.int']; rfl
    | str b => rw [h'.str']; rfl
    | _ => cases f'
  | str a =>
    rw [h.str']
    cases w with
    | non => rw [h'.non']; rfl
    | bl b => rw [h'.bl']; rfl
    | int b => rw [h'.int']; rfl
    | str b => rw [h'.str']; rfl
    | _ => cases f'
  | _ => cases f
theorem inV_rep {w : U} {y : V} (f' : flatU w = true) (h' : Rep K W io H w y) : ∀ {us : List U} {vs : List V}, us.all flatU = true → Reps K W io H us vs → inV y vs = us.any fun u => eqU u w
  | [], _, _, h => by rw [h.isNil]; rfl
  | u :: us, _, f, h => by
    obtain ⟨v, r, rfl, q, t⟩ := h.uncons
    rw [List.all_cons, Bool.and_eq_true] at f
    have ih := inV_rep f' h' f.2 t
    unfold inV at ih ⊢
    rw [List.any_cons, List.any_cons, eqV_rep f.1 f' q h', ih]
theorem pds_any {w : U} : ∀ us : List U, ((pds us).any fun z => PyData.eqv z (pd w)) = us.any fun u => eqU u w
  | [] => by unfold pds; rfl
  | u :: us => by unfold pds; rw [List.any_cons, List.any_cons, pds_any us]; rfl
end
section
variable {X : Cx}
theorem Rep.notNone {K : PySem.W.Frag} {W : Addr → Prop} {io : List Addr} {H : Hp} {u : U} {v : V} (h : Rep K W io H u v) (n : u ≠ .non) : v ≠ .non := fun e => by
  subst e
  cases u with
  | non => exact n rfl
  | bl b => cases h.bl'
  | int b => cases h.int'
  | str b => cases h.str'
  | tup us => obtain ⟨_, _, e, _⟩ := h.tup'; cases e
  | lst us => obtain ⟨_, _, e, _⟩ := h.lst'; cases e
  | dct ks us => unfold Rep at h; obtain ⟨_, _, e, _⟩ := h; cases e
  | ref k => unfold Rep at h; obtain ⟨_, _, e⟩ := h; cases e
  | ty k => unfold Rep at h; cases h
  | scr ns => unfold Rep at h; obtain ⟨_, e, _⟩ := h; cases e
theorem o_is : OpR X (compareOp .Is) (P2 X.K is2) := by
  intro pins s sg H x y v u Q I rx ry h
  obtain ⟨G, io, st, u1, u2, u3, ok, r1, r2, e, q⟩ := h
  have no : u1 ≠ .non → y = .non → u3 = .bl false → wpAny (model X.prog X.w) X.A (compareOp .Is v u) (EP X pins sg Q) X.xe s := fun n ey e3 => by
    subst ey; subst e3
    exact op_isN pins s sg H _ _ v u Q I rx ry ⟨rfl, q _ H (Same.refl H) (by rw [decide_eq_false (r1.notNone n)]; exact rBl _)⟩
  unfold is2 at e
  split at e
  · cases e; have e1 := r1.non'; have e2 := r2.non'; subst e1; subst e2
    exact op_isN pins s sg H _ _ v u Q I rx ry ⟨rfl, q _ H (Same.refl H) (rBl _)⟩
  · cases e; exact no (fun z => nomatch z) r2.non' rfl
  · cases e; exact no (fun z => nomatch z) r2.non' rfl
  · cases e; exact no (fun z => nomatch z) r2.non' rfl
  · cases e; exact no (fun z => nomatch z) r2.non' rfl
  · cases e; exact no (fun z => nomatch z) r2.non' rfl
  · cases e; exact no (fun z => nomatch z) r2.non' rfl
  · cases e; exact no (fun z => nomatch z) r2.non' rfl
  · cases e; have e1 := r1.bl'; have e2 := r2.bl'; subst e1; subst e2
    exact op_is_bl pins s sg H _ _ v u Q I rx ry ⟨_, _, rfl, rfl, q _ H (Same.refl H) (rBl _)⟩
  · cases e
theorem o_isnot : OpR X (compareOp .IsNot) (P2 X.K isnot2) := by
  intro pins s sg H x y v u Q I rx ry h
  obtain ⟨G, io, st, u1, u2, u3, ok, r1, r2, e, q⟩ := h
  have no : u1 ≠ .non → y = .non → u3 = .bl true → wpAny (model X.prog X.w) X.A (compareOp .IsNot v u) (EP X pins sg Q) X.xe s := fun n ey e3 => by
    subst ey; subst e3
    exact op_notN pins s sg H _ _ v u Q I rx ry ⟨rfl, q _ H (Same.refl H) (by rw [decide_eq_false (r1.notNone n)]; exact rBl _)⟩
  unfold isnot2 at e
  split at e
  · cases e; have e1 := r1.non'; have e2 := r2.non'; subst e1; subst e2
    exact op_notN pins s sg H _ _ v u Q I rx ry ⟨rfl, q _ H (Same.refl H) (rBl _)⟩
  · cases e; exact no (fun z => nomatch z) r2.non' rfl
  · cases e; exact no (fun z => nomatch z) r2.non' rfl
  · cases e; exact no (fun z => nomatch z) r2.non' rfl
  · cases e; exact no (fun z => nomatch z) r2.non' rfl
  · cases e; exact no (fun z => nomatch z) r2.non' rfl
  · cases e; exact no (fun z => nomatch z) r2.non' rfl
  · cases e; exact no (fun z => nomatch z) r2.non' rfl
  · cases e; have e1 := r1.bl'; have e2 := r2.bl'; subst e1; subst e2
    exact op_isnot_bl pins s sg H _ _ v u Q I rx ry ⟨_, _, rfl, rfl, q _ H (Same.refl H) (rBl _)⟩
  · cases e
theorem str_one {x : Str} (h : x.cps.size = 1) : x = ⟨#[x.cps.getD 0 0]⟩ := by
  obtain ⟨⟨l⟩⟩ := x
  match l, h with
  | [c], _ => rfl
theorem o_in (hu : X.A.units + 65 < cLine) : OpR X (compareOp .In) (P2 X.K in2) := by
  intro pins s sg H x y v u Q I rx ry h
  obtain ⟨G, io, st, u1, u2, u3, ok, r1, r2, e, q⟩ := h
  unfold in2 at e
  split at e
  · split at e
    · rename_i h1
      cases e; have e1 := r1.str'; have e2 := r2.str'; subst e1; subst e2
      exact op_in_sign pins s sg H _ _ v u Q I rx ry ⟨_, _, congrArg V.str (str_one h1), rfl, q _ H (Same.refl H) (rBl _)⟩
    · cases e
  · split at e
    · rename_i hf
      cases e
      rw [Bool.and_eq_true] at hf
      obtain ⟨a, vs, rfl, l, rs⟩ := r2.tup'
      exact op_in_seq pins s sg H _ _ v u Q I rx ry ⟨a, vs, rfl, .inr l.sq, flat_rep hf.1 r1, flats_rep hf.2 rs, q _ H (Same.refl H) (by rw [inV_rep hf.1 r1 hf.2 rs]; exact rBl _)⟩
    · split at e
      · rename_i hf
        cases e
        rw [Bool.and_eq_true] at hf
        obtain ⟨a, vs, rfl, l, rs⟩ := r2.tup'
        exact op_in_box hu I rx ry hf.1 r1 rfl (.inr l.sq) hf.2 rs (q _ H (Same.refl H) (rBl _))
      · cases e
  · split at e
    · rename_i hf
      cases e
      rw [Bool.and_eq_true] at hf
      obtain ⟨a, vs, rfl, l, rs⟩ := r2.lst'
      exact op_in_seq pins s sg H _ _ v u Q I rx ry ⟨a, vs, rfl, .inl l.sq, flat_rep hf.1 r1, flats_rep hf.2 rs, q _ H (Same.refl H) (by rw [inV_rep hf.1 r1 hf.2 rs]; exact rBl _)⟩
    · split at e
      · rename_i hf
        cases e
        rw [Bool.and_eq_true] at hf
        obtain ⟨a, vs, rfl, l, rs⟩ := r2.lst'
        exact op_in_box hu I rx ry hf.1 r1 rfl (.inl l.sq) hf.2 rs (q _ H (Same.refl H) (rBl _))
      split at e
      · rename_i ho
        cases e
        rw [Bool.and_eq_true] at ho
        refine op_inD hu pins s sg H _ _ v u Q I rx ry ⟨pd u1, _, r1.dp _ _ (SeqAt.canLay_of_shaped ho.1), r2.dp _ _ (SeqAt.canLay_of_shaped ho.2), ho.1, ho.2, q _ H (Same.refl H) ?_⟩
        rw [pds_any]; exact rBl _
      · cases e
  · cases e
theorem o_nin (hu : X.A.units + 65 < cLine) : OpR X (compareOp .NotIn) (P2 X.K nin2) := by
  intro pins s sg H x y v u Q I rx ry h
  obtain ⟨G, io, st, u1, u2, u3, ok, r1, r2, e, q⟩ := h
  unfold nin2 at e
  split at e
  · split at e
    · rename_i h1
      cases e; have e1 := r1.str'; have e2 := r2.str'; subst e1; subst e2
      exact op_notIn_sign pins s sg H _ _ v u Q I rx ry ⟨_, _, congrArg V.str (str_one h1), rfl, q _ H (Same.refl H) (rBl _)⟩
    · cases e
  · split at e
    · rename_i hf
      cases e
      rw [Bool.and_eq_true] at hf
      obtain ⟨a, vs, rfl, l, rs⟩ := r2.tup'
      exact op_notIn_seq pins s sg H _ _ v u Q I rx ry ⟨a, vs, rfl, .inr l.sq, flat_rep hf.1 r1, flats_rep hf.2 rs, q _ H (Same.refl H) (by rw [inV_rep hf.1 r1 hf.2 rs]; exact rBl _)⟩
    · split at e
      · rename_i hf
        cases e
        rw [Bool.and_eq_true] at hf
        obtain ⟨a, vs, rfl, l, rs⟩ := r2.tup'
        exact op_nin_box hu I rx ry hf.1 r1 rfl (.inr l.sq) hf.2 rs (q _ H (Same.refl H) (rBl _))
      · cases e
  · split at e
    · rename_i hf
      cases e
      rw [Bool.and_eq_true] at hf
      obtain ⟨a, vs, rfl, l, rs⟩ := r2.lst'
      exact op_notIn_seq pins s sg H _ _ v u Q I rx ry ⟨a, vs, rfl, .inl l.sq, flat_rep hf.1 r1, flats_rep hf.2 rs, q _ H (Same.refl H) (by rw [inV_rep hf.1 r1 hf.2 rs]; exact rBl _)⟩
    · split at e
      · rename_i hf
        cases e
        rw [Bool.and_eq_true] at hf
        obtain ⟨a, vs, rfl, l, rs⟩ := r2.lst'
        exact op_nin_box hu I rx ry hf.1 r1 rfl (.inl l.sq) hf.2 rs (q _ H (Same.refl H) (rBl _))
      split at e
      · rename_i ho
        cases e
        rw [Bool.and_eq_true] at ho
        refine op_notInD hu pins s sg H _ _ v u Q I rx ry ⟨pd u1, _, r1.dp _ _ (SeqAt.canLay_of_shaped ho.1), r2.dp _ _ (SeqAt.canLay_of_shaped ho.2), ho.1, ho.2, q _ H (Same.refl H) ?_⟩
        rw [pds_any]; exact rBl _
      · cases e
  · cases e
end
def ix2 : U → U → Option U
  | .lst us, .int i => atI us i
  | .tup us, .int i => atI us i
  | .scr ns, .int i => (atI ns i).map U.int
  | .str x, .int i => if x.length ≤ sizeLine then (atI x.cps.toList i).map fun c => .str ⟨#[c]⟩ else none
  | _, _ => none
theorem atI_map {A B : Type} (f : A → B) {l : List A} {i : Int} {x : A} (h : atI l i = some x) : atI (l.map f) i = some (f x) := by
  unfold atI at h ⊢
  rw [List.length_map]
  cases q : ixN l.length i with
  | none => rw [q] at h; cases h
  | some j =>
    rw [q] at h
    have h : l[j]? = some x := h
    show (l.map f)[j]? = some (f x)
    rw [List.getElem?_map, h]; rfl
theorem atI_rep {K : PySem.W.Frag} {W : Addr → Prop} {io : List Addr} {H : Hp} {us : List U} {vs : List V} (r : Reps K W io H us vs) {i : Int} {u : U} (h : atI us i = some u) : ∃ v, atI vs i = some v ∧ Rep K W io H u v := by
  unfold atI at h ⊢
  rw [← r.length]
  cases q : ixN us.length i with
  | none => rw [q] at h; cases h
  | some j =>
    rw [q] at h
    obtain ⟨v, h1, h2⟩ := r.get (i := j) (u := u) h
    exact ⟨v, h1, h2⟩
section
variable {X : Cx} {xs : XS} {wx : WX} {pos : Pos}
theorem o_ix : IxR X (P2 X.K ix2) := by
  intro value slice pins s sg H x y v u Q I rx ry h hs
  obtain ⟨G, io, st, u1, u2, u3, ok, r1, r2, e, q⟩ := h
  unfold ix2 at e
  split at e
  · have e2 := r2.int'; subst e2
    obtain ⟨a, vs, rfl, l, rs⟩ := r1.lst'
    obtain ⟨w, h1, h2⟩ := atI_rep rs e
    exact ix_list value slice pins s sg H _ _ v u Q I rx ry ⟨a, vs, _, w, rfl, rfl, l.sq, h1, q _ H (Same.refl H) h2⟩ hs
  · have e2 := r2.int'; subst e2
    obtain ⟨a, vs, rfl, l, rs⟩ := r1.tup'
    obtain ⟨w, h1, h2⟩ := atI_rep rs e
    exact ix_tup value slice pins s sg H _ _ v u Q I rx ry ⟨a, vs, _, w, rfl, rfl, l.sq, h1, q _ H (Same.refl H) h2⟩ hs
  · have e2 := r2.int'; subst e2
    rw [Option.map_eq_some_iff] at e
    obtain ⟨n, hn, rfl⟩ := e
    unfold Rep at r1
    obtain ⟨a, rfl, l⟩ := r1
    have h1 := atI_map V.int hn
    exact ix_list value slice pins s sg H _ _ v u Q I rx ry ⟨a, _, _, _, rfl, rfl, l.sq, h1, q _ H (Same.refl H) (rInt _)⟩ hs
  · split at e
    · rename_i hz
      have e1 := r1.str'; have e2 := r2.int'; subst e1; subst e2
      rw [Option.map_eq_some_iff] at e
      obtain ⟨c, hc, rfl⟩ := e
      exact ix_str value slice pins s sg H _ _ v u Q I rx ry ⟨_, _, c, rfl, rfl, hz, hc, q _ H (Same.refl H) (rStr _)⟩ hs
    · cases e
  · cases e
theorem d_ix {a b : Expr} {f g : DE} (ha : PE X a (tD X.K xs wx f)) (hb : PE X b (tD X.K xs wx g)) (hs : PlainIx b) : PE X (.Subscript a b pos) (tD X.K xs wx (bin ix2 f g)) := pe_imp (pe_ix o_ix ha hb hs) fun _ _ _ h => bin_read h
def cutL {A : Type} (l : List A) (lo hi : Option Int) : List A := (l.drop (HT.sIx l.length 0 lo)).take (HT.sIx l.length l.length hi - HT.sIx l.length 0 lo)
def sl3 (u : U) (lo hi : Option Int) : Option U := match u with
  | .lst us => some (.lst (cutL us lo hi))
  | .tup us => some (.tup (cutL us lo hi))
  | .scr ns => some (.lst ((cutL ns lo hi).map U.int))
  | .str x => if x.length ≤ sizeLine then some (.str (cutS x lo hi)) else none
  | _ => none
abbrev DO := Env → Store → Rs (Option Int)
def noO : DO := fun _ st => .ok none st
def soO (f : DE) : DO := fun env st => (f env st).bind fun u st1 => match u with
  | .int i => .ok (some i) st1
  | _ => .bad
def slD (f : DE) (a b : DO) : DE := fun env st => (f env st).bind fun u st1 => (a env st1).bind fun lo st2 => (b env st2).bind fun hi st3 => Rs.of (sl3 u lo hi) st3
def tDO (K : PySem.W.Frag) (xs : XS) (wx : WX) (f : DO) : TO := fun sg H Q => ∃ G io st env, Ok K G io st H ∧ EnvRep K G io H env sg ∧
  Wants K G io H (fun _ _ H' o => Q o H') (XW xs wx sg) (f env st)
theorem po_imp {e : Option Expr} {t t' : TO} (h : PO X e t) (f : ∀ sg H Q, t' sg H Q → t sg H Q) : PO X e t' := ⟨fun pins s sg H Q I q => h.run pins s sg H Q I (f sg H Q q)⟩
theorem op_none : PO X none (tDO X.K xs wx noO) := po_imp po_none fun sg H Q h => by
  obtain ⟨G, io, st, env, ok, er, w⟩ := h
  exact w.here ok
theorem op_some {e : Expr} {f : DE} (h : PE X e (tD X.K xs wx f)) : PO X (some e) (tDO X.K xs wx (soO f)) := po_imp (po_some h) fun sg H Q q => by
  obtain ⟨G, io, st, env, ok, er, w⟩ := q
  refine ⟨G, io, st, env, ok, er, w.bind.impR fun st1 io1 H1 u ok1 e1 w1 v rv => ?_⟩
  cases u with
  | int i => exact ⟨i, rv.int', w1.here ok1⟩
  | _ => exact w1.elim
def P3 (K : PySem.W.Frag) : V → Option Int → Option Int → Hp → VK → Prop := fun x lo hi H Q => ∃ G io st u1 u, Ok K G io st H ∧ Rep K (Wf G io) io H u1 x ∧ sl3 u1 lo hi = some u ∧ ∀ v H', Same H H' → Rep K (Wf G io) io H' u v → Q v H'
theorem o_sl : SlR X (P3 X.K) := by
  intro pins s sg H x v vl vu lo hi sl Q I rx hs pl pu h
  obtain ⟨G, io, st, u1, u3, ok, r1, e, q⟩ := h
  unfold sl3 at e
  split at e
  · cases e
    obtain ⟨a, vs, rfl, l, rs⟩ := r1.lst'
    refine sl_list pins s sg H _ v vl vu lo hi sl Q I rx hs pl pu ⟨a, vs, rfl, l.sq, fun p hp => q _ _ (same_upd hp) (ok.newL hp ?_)⟩
    unfold cutL cutV
    rw [rs.length]
    exact (rs.drop _).take _
  · cases e
    obtain ⟨a, vs, rfl, l, rs⟩ := r1.tup'
    refine sl_tupA pins s sg H _ v vl vu lo hi sl Q I rx hs pl pu ⟨a, vs, rfl, l.sq, fun w => q _ H (Same.refl H) ?_, fun _ p hp => q _ _ (same_upd hp) (ok.newT hp ?_)⟩
    · unfold cutL
      rw [rs.length, w.1, w.2, List.drop_zero, Nat.sub_zero, ← rs.length, List.take_length]
      exact rTup l rs
    · unfold cutL cutV
      rw [rs.length]
      exact (rs.drop _).take _
  · cases e
    unfold Rep at r1
    obtain ⟨a, rfl, l⟩ := r1
    refine sl_list pins s sg H _ v vl vu lo hi sl Q I rx hs pl pu ⟨a, _, rfl, l.sq, fun p hp => q _ _ (same_upd hp) (ok.newL hp ?_)⟩
    unfold cutL cutV
    rw [List.length_map, List.map_take, List.map_drop]
    exact ((Reps.ints _).drop _).take _
  · split at e
    · rename_i hz
      cases e; have e1 := r1.str'; subst e1
      exact sl_str pins s sg H _ v vl vu lo hi sl Q I rx hs pl pu ⟨_, rfl, hz, q _ H (Same.refl H) (rStr _)⟩
    · cases e
  · cases e
theorem d_slice {e : Expr} {lo hi : Option Expr} {p2 : Pos} {f : DE} {a b : DO} (he : PE X e (tD X.K xs wx f)) (hl : PO X lo (tDO X.K xs wx a)) (hu : PO X hi (tDO X.K xs wx b)) : PE X (.Subscript e (.Slice lo hi none p2) pos) (tD X.K xs wx (slD f a b)) :=
  pe_imp (pe_slice o_sl he hl hu) fun sg H Q h => by
    obtain ⟨G, io, st, env, ok, er, w⟩ := h
    refine ⟨G, io, st, env, ok, er, w.bind.impR fun st1 io1 H1 u ok1 e1 w1 v rv => ?_⟩
    refine ⟨G, io1, st1, env, ok1, er.ext ok.dj e1, w1.bind.impR fun st2 io2 H2 l ok2 e2 w2 => ?_⟩
    refine ⟨G, io2, st2, env, ok2, (er.ext ok.dj e1).ext ok1.dj e2, w2.bind.impR fun st3 io3 H3 h ok3 e3 w3 => ?_⟩
    obtain ⟨r, hr, w4⟩ := w3.pure
    exact ⟨G, io3, st3, u, r, ok3, (rv.ext e2).ext e3, hr, fun v' H' s r' => w4.hereS ok3 s v' r'⟩
end
end D
namespace D
open PySem L2
def lenN : List U → Option U
  | [.lst us] => some (.int us.length)
  | [.tup us] => some (.int us.length)
  | [.scr us] => some (.int us.length)
  | [.str x] => if x.length ≤ sizeLine then some (.int x.length) else none
  | _ => none
def tyU : U → Option String
  | .non => some "NoneType"
  | .bl _ => some "bool"
  | .int _ => some "int"
  | .str _ => some "str"
  | .tup _ => some "tuple"
  | .lst _ => some "list"
  | .dct _ _ => some "dict"
  | .scr _ => some "list"
  | _ => none
def isB (a b : String) : Bool := a == b || (a == "bool" && b == "int")
def tyNames : List String := ["str", "int", "bool", "tuple", "list", "dict"]
theorem isB_ok : ∀ a ∈ ["NoneType", "bool", "int", "str", "tuple", "list", "dict"], ∀ b ∈ tyNames, kitB a b = some (isB a b) := by decide +kernel
def isiN : List U → Option U
  | [u, .ty c] => if c ∈ tyNames then (tyU u).map fun t => .bl (isB t c) else none
  | _ => none
theorem tyU_mem {u : U} {t : String} (h : tyU u = some t) : t ∈ ["NoneType", "bool", "int", "str", "tuple", "list", "dict"] := by
  cases u <;> first | (cases h; decide) | cases h
def maxN : List U → Option U
  | [.int i, .int j] => some (.int (if j > i then j else i))
  | _ => none
def minN : List U → Option U
  | [.int i, .int j] => some (.int (if j < i then j else i))
  | _ => none
def absN : List U → Option U
  | [.int i] => some (.int (if i < 0 then -i else i))
  | _ => none
def boolsU : List U → Option (List Bool)
  | [] => some []
  | .bl b :: us => (boolsU us).map (b :: ·)
  | _ => none
def intsU : List U → Option (List Int)
  | [] => some []
  | .int b :: us => (intsU us).map (b :: ·)
  | _ => none
def strsU : List U → Option (List Str)
  | [] => some []
  | .str b :: us => (strsU us).map (b :: ·)
  | _ => none
theorem bools_eq : ∀ {us : List U} {bs : List Bool}, boolsU us = some bs → us = bs.map U.bl
  | [], _, h => by cases h; rfl
  | .bl b :: us, _, h => by
    unfold boolsU at h
    rw [Option.map_eq_some_iff] at h
    obtain ⟨r, h1, rfl⟩ := h
    rw [bools_eq h1]; rfl
  | .non :: _, _, h => by unfold boolsU at h; cases h
  | .int _ :: _, _, h => by unfold boolsU at h; cases h
  | .str _ :: _, _, h => by unfold boolsU at h; cases h
  | .tup _ :: _, _, h => by unfold boolsU at h; cases h
  | .lst _ :: _, _, h => by unfold boolsU at h; cases h
  | .dct _ _ :: _, _, h => by unfold boolsU at h; cases h
  | .ref _ :: _, _, h => by unfold boolsU at h; cases h
  | .ty _ :: _, _, h => by unfold boolsU at h; cases h
  | .scr _ :: _, _, h => by unfold boolsU at h; cases h
theorem strs_eq : ∀ {us : List U} {bs : List Str}, strsU us = some bs → us = bs.map U.str
  | [], _, h => by cases h; rfl
  | .str b :: us, _, h => by
    unfold strsU at h
    rw [Option.map_eq_some_iff] at h
    obtain ⟨r, h1, rfl⟩ := h
    rw [strs_eq h1]; rfl
  | .non :: _, _, h => by unfold strsU at h; cases h
  | .bl _ :: _, _, h => by unfold strsU at h; cases h
  | .int _ :: _, _, h => by unfold strsU at h; cases h
  | .tup _ :: _, _, h => by unfold strsU at h; cases h
  | .lst _ :: _, _, h => by unfold strsU at h; cases h
  | .dct _ _ :: _, _, h => by unfold strsU at h; cases h
  | .ref _ :: _, _, h => by unfold strsU at h; cases h
  | .ty _ :: _, _, h => by unfold strsU at h; cases h
  | .scr _ :: _, _, h => by unfold strsU at h; cases h
theorem bools_map (bs : List Bool) : boolsU (bs.map U.bl) = some bs := by
  induction bs with
  | nil => rfl
  | cons b bs ih => rw [List.map_cons]; unfold boolsU; rw [ih]; rfl
theorem strs_map (bs : List Str) : strsU (bs.map U.str) = some bs := by
  induction bs with
  | nil => rfl
  | cons b bs ih => rw [List.map_cons]; unfold strsU; rw [ih]; rfl
def allN : List U → Option U
  | [.lst us] => (boolsU us).map fun bs => .bl (bs.all id)
  | _ => none
def tupN : List U → Option U
  | [.lst us] => some (.tup us)
  | [.tup us] => some (.tup us)
  | _ => none
def intN : List U → Option U
  | [.int i] => some (.int i)
  | [.bl k] => some (.int (if k then 1 else 0))
  | _ => none
def strN : List U → Option U
  | [.int i] => if i.natAbs.log2 < 1920 then some (.str (toString i)) else none
  | [.str x] => some (.str x)
  | _ => none
section
variable {K : PySem.W.Frag} {W : Addr → Prop} {io : List Addr} {H : Hp}
theorem Reps.one {u : U} {vs : List V} (h : Reps K W io H [u] vs) : ∃ v, vs = [v] ∧ Rep K W io H u v := by
  obtain ⟨v, r, rfl, q, t⟩ := h.uncons
  rw [t.isNil]; exact ⟨v, rfl, q⟩
theorem Reps.two {u w : U} {vs : List V} (h : Reps K W io H [u, w] vs) : ∃ v x, vs = [v, x] ∧ Rep K W io H u v ∧ Rep K W io H w x := by
  obtain ⟨v, r, rfl, q, t⟩ := h.uncons
  obtain ⟨x, rfl, q'⟩ := t.one
  exact ⟨v, x, rfl, q, q'⟩
theorem Rep.scr' {ns : List Int} {v : V} (h : Rep K W io H (.scr ns) v) : ∃ a, v = .ref a ∧ LS K W H a (ns.map V.int) := by unfold Rep at h; exact h
theorem Rep.dct' {ks us : List U} {v : V} (h : Rep K W io H (.dct ks us) v) : ∃ a vs, v = .ref a ∧ LD W H a ks vs ∧ Reps K W io H us vs := by unfold Rep at h; exact h
theorem Rep.ty' {n : String} {v : V} (h : Rep K W io H (.ty n) v) : v = .ty n := by unfold Rep at h; exact h
theorem tyX {u : U} {v : V} {t : String} (h : Rep K W io H u v) (e : tyU u = some t) : TyX K H v (.type t) := by
  cases u with
  | non => cases e; rw [h.non']; exact .base .non
  | bl b => cases e; rw [h.bl']; exact .base (.bl b)
  | int b => cases e; rw [h.int']; exact .base (.int b)
  | str b => cases e; rw [h.str']; exact .base (.str b)
  | tup us =>
    cases e
    obtain ⟨a, vs, rfl, l, _⟩ := h.tup'
    rcases l with ⟨l | ⟨o, l⟩, _⟩ | ⟨o, its, n, l, c, _⟩
    · exact .base (.tup l)
    · exact .fTuple l
    · exact .kTuple l c
  | lst us =>
    cases e
    obtain ⟨a, vs, rfl, l, _⟩ := h.lst'
    exact .base (.lst l.1)
  | dct ks us =>
    cases e
    obtain ⟨a, vs, rfl, ⟨_, ⟨kvs, l | ⟨o, l⟩, _⟩ | ⟨kvs, l, _⟩⟩, _⟩ := h.dct'
    · exact .base (.dK l)
    · exact .fDict l
    · exact .base (.dT l)
  | scr ns =>
    cases e
    obtain ⟨a, rfl, l⟩ := h.scr'
    rcases l with ⟨l | ⟨o, l⟩, _⟩ | ⟨o, its, n, l, c, _⟩
    · exact .base (.lst l)
    · exact .base (.frz l)
    · exact .kList l c
  | _ => cases e
end
section
variable {X : Cx}
theorem c_len : CallR X (.builtin "len") (PN X.K lenN) := by
  intro pins s sg H vs us Q I r h
  obtain ⟨G, io, st, ws, u, ok, rs, e, q⟩ := h
  unfold lenN at e
  split at e
  · cases e
    obtain ⟨v, rfl, rv⟩ := rs.one
    obtain ⟨a, xs, rfl, l, r'⟩ := rv.lst'
    exact call_len_seq pins s sg H _ us Q I r ⟨a, xs, rfl, .inl l.sq, q _ H (Same.refl H) (by rw [r'.length]; exact rInt _)⟩
  · cases e
    obtain ⟨v, rfl, rv⟩ := rs.one
    obtain ⟨a, xs, rfl, l, r'⟩ := rv.tup'
    exact call_len_seq pins s sg H _ us Q I r ⟨a, xs, rfl, .inr l.sq, q _ H (Same.refl H) (by rw [r'.length]; exact rInt _)⟩
  · cases e
    obtain ⟨v, rfl, rv⟩ := rs.one
    obtain ⟨a, rfl, l⟩ := rv.scr'
    exact call_len_seq pins s sg H _ us Q I r ⟨a, _, rfl, .inl l.sq, q _ H (Same.refl H) (by rw [List.length_map]; exact rInt _)⟩
  · split at e
    · rename_i hz
      cases e
      obtain ⟨v, rfl, rv⟩ := rs.one
      have e1 := rv.str'; subst e1
      exact call_len_str pins s sg H _ us Q I r ⟨_, rfl, hz, q _ H (Same.refl H) (rInt _)⟩
    · cases e
  · cases e
theorem c_isi : CallR X (.builtin "isinstance") (PN X.K isiN) := by
  intro pins s sg H vs us Q I r h
  obtain ⟨G, io, st, ws, u, ok, rs, e, q⟩ := h
  unfold isiN at e
  split at e
  · rename_i w c
    split at e
    · rename_i hc
      rw [Option.map_eq_some_iff] at e
      obtain ⟨t, ht, rfl⟩ := e
      obtain ⟨v, x, rfl, rv, rx⟩ := rs.two
      have e1 := rx.ty'; subst e1
      exact call_isi pins s sg H _ us Q I r ⟨v, .ty c, .type t, .type c, isB t c, rfl, .ty c, tyX rv ht, kit_ty (isB_ok t (tyU_mem ht) c hc), q _ H (Same.refl H) (rBl _)⟩
    · cases e
  · cases e
theorem c_max (hc : X.calm = true) : CallR X (.builtin "max") (PN X.K maxN) := by
  intro pins s sg H vs us Q I r h
  obtain ⟨G, io, st, ws, u, ok, rs, e, q⟩ := h
  unfold maxN at e
  split at e
  · cases e
    obtain ⟨v, x, rfl, rv, rx⟩ := rs.two
    have e1 := rv.int'; have e2 := rx.int'; subst e1; subst e2
    exact call_max2 hc pins s sg H _ us Q I r ⟨_, _, rfl, q _ H (Same.refl H) (rInt _)⟩
  · cases e
theorem c_min (hc : X.calm = true) : CallR X (.builtin "min") (PN X.K minN) := by
  intro pins s sg H vs us Q I r h
  obtain ⟨G, io, st, ws, u, ok, rs, e, q⟩ := h
  unfold minN at e
  split at e
  · cases e
    obtain ⟨v, x, rfl, rv, rx⟩ := rs.two
    have e1 := rv.int'; have e2 := rx.int'; subst e1; subst e2
    exact call_min2 hc pins s sg H _ us Q I r ⟨_, _, rfl, q _ H (Same.refl H) (rInt _)⟩
  · cases e
theorem c_abs : CallR X (.builtin "abs") (PN X.K absN) := by
  intro pins s sg H vs us Q I r h
  obtain ⟨G, io, st, ws, u, ok, rs, e, q⟩ := h
  unfold absN at e
  split at e
  · cases e
    obtain ⟨v, rfl, rv⟩ := rs.one
    have e1 := rv.int'; subst e1
    exact call_abs pins s sg H _ us Q I r ⟨_, rfl, q _ H (Same.refl H) (rInt _)⟩
  · cases e
theorem c_all (hc : X.calm = true) : CallR X (.builtin "all") (PN X.K allN) := by
  intro pins s sg H vs us Q I r h
  obtain ⟨G, io, st, ws, u, ok, rs, e, q⟩ := h
  unfold allN at e
  split at e
  · rw [Option.map_eq_some_iff] at e
    obtain ⟨bs, hb, rfl⟩ := e
    obtain ⟨v, rfl, rv⟩ := rs.one
    obtain ⟨a, xs, rfl, l, r'⟩ := rv.lst'
    rw [bools_eq hb] at r'
    have e1 := Reps.ofBls r'; subst e1
    exact cr_all hc pins s sg H _ us Q I r ⟨a, bs, rfl, l.sq, q _ H (Same.refl H) (rBl _)⟩
  · cases e
theorem c_tup : CallR X (.type "tuple") (PN X.K tupN) := by
  intro pins s sg H vs us Q I r h
  obtain ⟨G, io, st, ws, u, ok, rs, e, q⟩ := h
  unfold tupN at e
  split at e
  · cases e
    obtain ⟨v, rfl, rv⟩ := rs.one
    obtain ⟨a, xs, rfl, l, r'⟩ := rv.lst'
    exact call_tuple_of pins s sg H _ us Q I r ⟨a, xs, rfl, .inl ⟨l.sq, fun p hp => q _ _ (same_upd hp) (ok.newT hp r')⟩⟩
  · cases e
    obtain ⟨v, rfl, rv⟩ := rs.one
    obtain ⟨a, xs, rfl, l, r'⟩ := rv.tup'
    exact call_tuple_of pins s sg H _ us Q I r ⟨a, xs, rfl, .inr ⟨l.sq, q _ H (Same.refl H) (rTup l r')⟩⟩
  · cases e
theorem c_int : CallR X (.type "int") (PN X.K intN) := by
  intro pins s sg H vs us Q I r h
  obtain ⟨G, io, st, ws, u, ok, rs, e, q⟩ := h
  unfold intN at e
  split at e
  · cases e
    obtain ⟨v, rfl, rv⟩ := rs.one
    have e1 := rv.int'; subst e1
    exact call_int1 pins s sg H _ us Q I r (.inl ⟨_, rfl, q _ H (Same.refl H) (rInt _)⟩)
  · cases e
    obtain ⟨v, rfl, rv⟩ := rs.one
    have e1 := rv.bl'; subst e1
    exact call_int1 pins s sg H _ us Q I r (.inr ⟨_, rfl, q _ H (Same.refl H) (rInt _)⟩)
  · cases e
/-- list(x): a new one -/
def lstL : List U → Option (List U)
  | [.lst us] => some us
  | [.tup us] => some us
  | [.scr ns] => some (ns.map U.int)
  | _ => none
variable {xs : XS} {wx : WX} {pos : Pos}
end
end D
namespace D
open PySem L2
structure Fn (P : Program) (w : World) (K : PySem.W.Frag) (mg : Str → Option Value) (base : Heap) (xs : XS) (x : Str) (k n : Nat) (g : List U → Store → Rs U) : Prop where
  ex : ∃ f fd ps, mg x = some (.ref f) ∧ PySem.W.keepIn K (.ref f) = true ∧ Binds K fd ps [] ∧ FnOk P w K mg base (L2.CX P w) k f fd ps (spD K xs n g)
  bad : ∀ us st, us.length ≠ n → g us st = .bad
theorem Fn.imp {P : Program} {w : World} {K : PySem.W.Frag} {mg : Str → Option Value} {base : Heap} {xs : XS} {x : Str} {k n : Nat} {g g' : List U → Store → Rs U} (h : Fn P w K mg base xs x k n g) (e : ∀ us st, g' us st ≠ .bad → g us st = g' us st) (hb : ∀ us st, us.length ≠ n → g' us st = .bad) : Fn P w K mg base xs x k n g' := by
  obtain ⟨⟨f, fd, ps, h1, h2, h3, h4⟩, h5⟩ := h
  refine ⟨⟨f, fd, ps, h1, h2, h3, h4.imp fun vs H Q E q => ?_⟩, hb⟩
  obtain ⟨hl, G, io, st, us, ok, r, w⟩ := q
  refine ⟨hl, G, io, st, us, ok, r, ?_⟩
  rw [e us st (Rs.of_bad w)]
  exact w
section
variable {X : Cx} {xs : XS} {wx : WX} {pos : Pos}
theorem d_callF {k n : Nat} {x : Str} {p : Pos} {e : Expr} {es : List Expr} {g : List U → Store → Rs U} {fa : DA} (F : Fn X.prog X.w X.K X.mg X.base xs x k n g) (tk : Takes X wx) (hr : Room k X.A) (hg : Gl X x)
    (ha : PA X (e :: es) (tDA X.K xs wx fa)) (hdb : (x == ("__debug__" : Str)) = false := by decide)
    (he : starEach (e :: es) X.env = (false, eval e X.env) :: starEach es X.env := by rfl) (hpl : (backTo pos (starEach es X.env)).any (·.1) = false := by rfl) : PE X (.Call (.Name x p) (e :: es) [] pos) (tD X.K xs wx (appU g fa)) := by
  obtain ⟨⟨f, fd, ps, h1, h2, h3, h4⟩, h5⟩ := F
  exact d_call tk h4 hr hg h1 h2 h3 h5 ha hdb he hpl
theorem hvs_N {i : Nat} {vs : List Nat} (h : i ∈ vs) : ∀ u l, tgN i u = some l → ∀ p ∈ l, p.1 ∈ vs := fun u l e p hp => by
  cases e
  have : p = (i, u) := by simpa using hp
  subst this; exact h
theorem hvs_T {is vs : List Nat} (h : ∀ i ∈ is, i ∈ vs) : ∀ u l, tgT is u = some l → ∀ p ∈ l, p.1 ∈ vs := fun u l e p hp => by
  unfold tgT at e
  split at e
  · split at e
    · cases e
      exact h _ (List.of_mem_zip hp).1
    · cases e
  · cases e
theorem d_ty {x : Str} {n : String} {p : Pos} (hg : Gl X x) (hm : X.mg x = none) (hv : bootBuiltins x = some (.type n)) (hn : x ≠ "__name__" := by decide) (hd : (x == ("__debug__" : Str)) = false := by decide) : PE X (.Name x p) (tD X.K xs wx (cst (.ty n))) :=
  d_cst (pe_bltn hg hm hv (v := .ty n) rfl hn hd) fun _ _ _ => by unfold Rep; rfl
def neg1D (f : DE) : DE := fun env st => (f env st).bind fun u st1 => Rs.of (neg1 u) st1
theorem d_neg {a : Expr} {f : DE} (h : PE X a (tD X.K xs wx f)) : PE X (.UnaryOp .USub a pos) (tD X.K xs wx (neg1D f)) := pe_imp (pe_un un_neg h) fun sg H Q q => by
  obtain ⟨G, io, st, env, ok, er, w⟩ := q
  refine ⟨G, io, st, env, ok, er, w.bind.impR fun st1 io1 H1 u ok1 e1 w1 v rv => ?_⟩
  cases u with
  | int i => exact ⟨i, rv.int', Wants.here (a := U.int (-i)) w1 ok1 _ (rInt _)⟩
  | _ => exact w1.elim
def kOf : U → Option Key
  | .int i => some (.inl i)
  | .str x => some (.inr x)
  | _ => none
def putG {A : Type} (kvs : List (Key × A)) (k : Key) (v : A) : List (Key × A) := if (kvs.any fun kv => decide (kv.1 = k)) = true then kvs.map (fun kv => if kv.1 = k then (kv.1, v) else kv) else kvs ++ [(k, v)]
def mergeG {A : Type} (kvs more : List (Key × A)) : List (Key × A) := more.foldl (fun acc kv => putG acc kv.1 kv.2) kvs
def mkD (kvs : List (Key × U)) : U := .dct (kvs.map fun p => kU p.1) (kvs.map (·.2))
def keyed : List (U × U) → Option (List (Key × U))
  | [] => some []
  | p :: r => match kOf p.1, keyed r with
    | some k, some l => some ((k, p.2) :: l)
    | _, _ => none
def dispU (l : List (U × U)) : Option U := (keyed l).bind fun kvs => if kvs.length ≤ 15 then some (mkD (mergeG [] kvs)) else none
def pairsE : List (DE × DE) → Env → Store → Rs (List (U × U))
  | [], _, st => .ok [] st
  | p :: r, env, st => (p.1 env st).bind fun k st1 => (p.2 env st1).bind fun v st2 => (pairsE r env st2).bind fun l st3 => .ok ((k, v) :: l) st3
def dispD (ps : List (DE × DE)) : DE := fun env st => (noEx (pairsE ps env st)).bind fun l st1 => Rs.of (dispU l) st1
/-- keyed values -/
def KR (K : PySem.W.Frag) (W : Addr → Prop) (io : List Addr) (H : Hp) : List (Key × U) → List (Key × V) → Prop := Paired fun p q => p.1 = q.1 ∧ Rep K W io H p.2 q.2
section
variable {K : PySem.W.Frag} {W : Addr → Prop} {io : List Addr} {H : Hp}
theorem KR.any {k : Key} : ∀ {a : List (Key × U)} {b : List (Key × V)}, KR K W io H a b → (a.any fun kv => decide (kv.1 = k)) = (b.any fun kv => decide (kv.1 = k))
  | _, _, .nil => rfl
  | _, _, .cons h t => by rw [List.any_cons, List.any_cons, KR.any t, h.1]
theorem KR.app : ∀ {a a' : List (Key × U)} {b b' : List (Key × V)}, KR K W io H a b → KR K W io H a' b' → KR K W io H (a ++ a') (b ++ b')
  | _, _, _, _, .nil, h => h
  | _, _, _, _, .cons h t, h' => .cons h (KR.app t h')
theorem KR.upd {k : Key} {u : U} {v : V} (r : Rep K W io H u v) : ∀ {a : List (Key × U)} {b : List (Key × V)}, KR K W io H a b → KR K W io H (a.map (fun kv => if kv.1 = k then (kv.1, u) else kv)) (b.map (fun kv => if kv.1 = k then (kv.1, v) else kv))
  | _, _, .nil => .nil
  | _, _, .cons h t => by
    rw [List.map_cons, List.map_cons]
    refine .cons ?_ (KR.upd r t)
    obtain ⟨h1, h2⟩ := h
    rw [h1]
    split
    · exact ⟨rfl, r⟩
    · exact ⟨h1, h2⟩
theorem KR.put {a : List (Key × U)} {b : List (Key × V)} (h : KR K W io H a b) {k : Key} {u : U} {v : V} (r : Rep K W io H u v) : KR K W io H (putG a k u) (putK b k v) := by
  unfold putG putK
  rw [h.any]
  split
  · exact h.upd r
  · exact h.app (.cons ⟨rfl, r⟩ .nil)
theorem KR.keys : ∀ {a : List (Key × U)} {b : List (Key × V)}, KR K W io H a b → (a.map fun p => kU p.1) = (b.map fun p => kU p.1)
  | _, _, .nil => rfl
  | _, _, .cons h t => by rw [List.map_cons, List.map_cons, KR.keys t, h.1]
theorem KR.vals : ∀ {a : List (Key × U)} {b : List (Key × V)}, KR K W io H a b → Reps K W io H (a.map (·.2)) (b.map (·.2))
  | _, _, .nil => .nil
  | _, _, .cons h t => .cons h.2 (KR.vals t)
theorem KR.len : ∀ {a : List (Key × U)} {b : List (Key × V)}, KR K W io H a b → a.length = b.length
  | _, _, .nil => rfl
  | _, _, .cons _ t => by simp [KR.len t]
theorem Ok.newD {G : Addr → Prop} {st : Store} (ok : Ok K G io st H) {p : Addr} (hp : H p = none) {us : List (Key × U)} {vs : List (Key × V)} (r : KR K (Wf G io) io H us vs) : Rep K (Wf G io) io (L2.upd H p (.dK vs)) (mkD us) (.ref p) := by
  unfold mkD Rep
  exact ⟨p, vs.map (·.2), rfl, ⟨ok.fresh hp, .inl ⟨vs, .inl upd_same, r.keys, rfl⟩⟩, r.vals.ext (Ext.same (same_upd hp))⟩
theorem kOf_rep {u : U} {v : V} {k : Key} (h : Rep K W io H u v) (e : kOf u = some k) : v = kV k := by
  cases u with
  | int i => cases e; rw [h.int']; rfl
  | str i => cases e; rw [h.str']; rfl
  | _ => cases e
end
theorem d_dict0 : PE X (.Dict [] [] pos) (tD X.K xs wx (cst (.dct [] []))) := pe_imp pe_dnewK fun sg H Q h => by
  obtain ⟨G, io, st, env, ok, er, w⟩ := h
  exact fun p hp => w.hereS ok (same_upd hp) _ (ok.newD (us := []) hp .nil)
end
end D
namespace D
open PySem L2
theorem bt_len : bootBuiltins "len" = some (.builtin "len") := by decide +kernel
theorem bt_isinstance : bootBuiltins "isinstance" = some (.builtin "isinstance") := by decide +kernel
theorem bt_max : bootBuiltins "max" = some (.builtin "max") := by decide +kernel
theorem bt_min : bootBuiltins "min" = some (.builtin "min") := by decide +kernel
theorem bt_abs : bootBuiltins "abs" = some (.builtin "abs") := by decide +kernel
theorem bt_all : bootBuiltins "all" = some (.builtin "all") := by decide +kernel
theorem bt_sorted : bootBuiltins "sorted" = some (.builtin "sorted") := by decide +kernel
theorem bt_tuple : bootBuiltins "tuple" = some (.type "tuple") := by decide +kernel
theorem bt_list : bootBuiltins "list" = some (.type "list") := by decide +kernel
theorem bt_int : bootBuiltins "int" = some (.type "int") := by decide +kernel
theorem bt_str : bootBuiltins "str" = some (.type "str") := by decide +kernel
theorem bt_bool : bootBuiltins "bool" = some (.type "bool") := by decide +kernel
theorem bt_set : bootBuiltins "set" = some (.type "set") := by decide +kernel
theorem u65 {k : Nat} {A : Around} (hr : Room k A) : A.units + 65 < cLine := by have := hr.un; omega
section
variable {X : Cx} {xs : XS} {wx : WX} {pos : Pos}
theorem dv (i : Nat) {x : Str} (hN : X.N[i]? = some x := by rfl) (hv : Vis X.env.scope x := by first | exact Or.inl rfl | exact Or.inr (Or.inl rfl) | exact Or.inr (Or.inr rfl)) (hd : (x == ("__debug__" : Str)) = false := by decide) (hcd : (x == ("__classdict__" : Str)) = false := by decide) :
    PE X (.Name x pos) (tD X.K xs wx (var i)) := d_var i hN hv hd hcd
theorem gn (i : Nat) {x : Str} (hN : X.N.Nodup) (hi : X.N[i]? = some x := by rfl) (hx : Loc X.env.scope x := by first | exact Or.inl rfl | exact Or.inr rfl) (hf : X.fn x = true ∨ X.env.scope.names.lookup x = some .local := by first | exact .inl rfl | exact .inr rfl) : PG X (.Name x pos) (gD X.K (tgN i)) := g_name hN hi hx hf
theorem gc {x : Str} {p : Pos} (i : Nat) {es : List Expr} {is : List Nat} (t : GNames X es is) (hi : X.N[i]? = some x := by rfl) (hx : Loc X.env.scope x := by first | exact Or.inl rfl | exact Or.inr rfl) (hf : X.fn x = true ∨ X.env.scope.names.lookup x = some .local := by first | exact .inl rfl | exact .inr rfl) : GNames X (.Name x p :: es) (i :: is) := .cons hi hx hf t
theorem sset (i : Nat) {x : Str} {e : Expr} {f : DE} {pos' : Pos} (hN : X.N.Nodup) (he : PE X e (tD X.K xs wx f)) (hi : X.N[i]? = some x := by rfl) (hx : Loc X.env.scope x := by first | exact Or.inl rfl | exact Or.inr rfl) (hs : swapsWith e (some (.Name x pos')) pos.line X.env = Pure.pure false := by rfl)
    (hf : X.fn x = true ∨ X.env.scope.names.lookup x = some .local := by first | exact .inl rfl | exact .inr rfl) : PS X (.Assign [.Name x pos'] e pos) (tDS X.K xs wx (sSet i f)) := s_set hN hi hx he hs hf
theorem sown (i : Nat) {x : Str} {e : Expr} {f : DL} {pos' : Pos} (hN : X.N.Nodup) (he : PE X e (tDL X.K xs wx f)) (hi : X.N[i]? = some x := by rfl) (hx : Loc X.env.scope x := by first | exact Or.inl rfl | exact Or.inr rfl) (hs : swapsWith e (some (.Name x pos')) pos.line X.env = Pure.pure false := by rfl)
    (hf : X.fn x = true ∨ X.env.scope.names.lookup x = some .local := by first | exact .inl rfl | exact .inr rfl) : PS X (.Assign [.Name x pos'] e pos) (tDS X.K xs wx (sOwn i f)) := s_own hN hi hx he hs hf
theorem sapp (i : Nat) {x : Str} {e : Expr} {f : DE} {p1 p2 : Pos} (he : PE X e (tD X.K xs wx f)) (hN : X.N[i]? = some x := by rfl) (hv : Vis X.env.scope x := by first | exact Or.inl rfl | exact Or.inr (Or.inl rfl) | exact Or.inr (Or.inr rfl)) (hd : (x == ("__debug__" : Str)) = false := by decide) (hcd : (x == ("__classdict__" : Str)) = false := by decide)
    (hfew : ((backTo pos (starEach [e] X.env)).all (fun x => !x.1) && (backToKw pos (keywordEach [] X.env)).all (fun x => x.1.isSome) && decide ([e].length + ([] : List Keyword).length + (if ([] : List Keyword).isEmpty then 0 else 1) < 30)) = true := by rfl)
    (hline : (p1.endLine == pos.line) = true := by rfl) (hs : starEach (e :: []) X.env = (false, eval e X.env) :: starEach [] X.env := by rfl) (hplain : (backTo pos (starEach [] X.env)).any (·.1) = false := by rfl)
    (hsw : swapsWith (.Call (.Attribute (.Name x p2) "append" p1) [e] [] pos) none pos.line X.env = Pure.pure false := by rfl) {pos2 : Pos} :
    PS X (.Expr (.Call (.Attribute (.Name x p2) "append" p1) [e] [] pos) pos2) (tDS X.K xs wx (sApp i f)) := s_app hN hv he hd hcd hfew hline hs hplain hsw
/-- a list of the frame's own is never written from here on -/
def frz1 (s : Sl) : Sl := match s with
  | .own us => .val (.lst us)
  | s => s
def frzE (i : Nat) (env : Env) : Env := match env[i]? with
  | some s => env.set i (frz1 s)
  | none => env
def frzS (i : Nat) (f : DS) : DS := fun env st => f (frzE i env) st
theorem Fr.freeze {K : PySem.W.Frag} {F : Addr → Prop} {io : List Addr} {st : Store} {env : Env} {sg : L2.St} {H : Hp} (f : Fr K F io st env sg H) (i : Nat) : Fr K F io st (frzE i env) sg H ∧ ExtO io H (Ow env sg) io H (Ow (frzE i env) sg) := by
  unfold frzE
  split
  case h_2 => exact ⟨f, ExtO.refl _ _ _⟩
  rename_i s hs
  have hi : i < env.length := (List.getElem?_eq_some_iff.mp hs).1
  cases s with
  | un =>
    have e : env.set i (frz1 .un) = env := by
      apply List.ext_getElem?
      intro j
      by_cases hj : i = j
      · subst hj; rw [List.getElem?_set_self hi, hs]; rfl
      · rw [List.getElem?_set_ne hj]
    rw [e]; exact ⟨f, ExtO.refl _ _ _⟩
  | val u =>
    have e : env.set i (frz1 (.val u)) = env := by
      apply List.ext_getElem?
      intro j
      by_cases hj : i = j
      · subst hj; rw [List.getElem?_set_self hi, hs]; rfl
      · rw [List.getElem?_set_ne hj]
    rw [e]; exact ⟨f, ExtO.refl _ _ _⟩
  | own us =>
    obtain ⟨a, vs, e1, e2, r⟩ := f.slot hs
    have ow : ∀ b, Ow (env.set i (.val (.lst us))) sg b → Ow env sg b ∧ b ≠ a := fun b ⟨j, ws, h1, h2⟩ => by
      by_cases hj : i = j
      · subst hj; rw [List.getElem?_set_self hi] at h1; cases h1
      · rw [List.getElem?_set_ne hj] at h1
        refine ⟨⟨j, ws, h1, h2⟩, fun e => hj ?_⟩
        subst e
        exact f.dd i j b us ws hs h1 e1 h2
    have ex : ExtO io H (Ow env sg) io H (Ow (env.set i (.val (.lst us))) sg) := ⟨⟨[], by simp, fun _ h => nomatch h⟩, fun _ _ _ _ h => h, fun _ o h => ⟨o, h⟩, fun b h => .inl (ow b h).1⟩
    have m := ex.mono (F := F)
    have oa : Ow env sg a := ⟨i, us, hs, e1⟩
    refine ⟨⟨f.ok.mono fun b h => h.imp id fun z => (ow b z).1, ⟨by simp [f.er.len], fun j s o h1 h2 => ?_⟩, fun b h => f.nF b (ow b h).1, fun j k b us1 us2 h1 h2 h3 h4 => ?_⟩, ex⟩
    · by_cases hj : i = j
      · subst hj
        rw [List.getElem?_set_self hi] at h1
        rw [e1] at h2
        cases h1; cases h2
        refine ⟨.ref a, rfl, ?_⟩
        unfold Rep
        refine ⟨a, vs, rfl, ⟨e2, ?_⟩, r.mono m⟩
        rintro ((z | z) | z)
        · exact f.nF a oa z
        · exact (ow a z).2 rfl
        · exact f.ok.dj a z (.inr oa)
      · have g1 := h1
        rw [List.getElem?_set_ne hj] at h1
        have q := f.er.sl j s o h1 h2
        cases s with
        | un => trivial
        | val u' => obtain ⟨v', q1, q2⟩ := q; exact ⟨v', q1, q2.mono m⟩
        | own ws =>
          obtain ⟨b, vs1, q1, q2, q3, q4⟩ := q
          subst q1
          exact ⟨b, vs1, rfl, .inr ⟨j, ws, g1, h2⟩, q3, q4.mono m⟩
    · have back : ∀ (j : Nat) (w : List U), (env.set i (.val (.lst us)))[j]? = some (.own w) → env[j]? = some (.own w) := fun j w h => by
        by_cases hj : i = j
        · subst hj; rw [List.getElem?_set_self hi] at h; cases h
        · rw [List.getElem?_set_ne hj] at h; exact h
      exact f.dd j k b us1 us2 (back j us1 h1) (back k us2 h2) h3 h4
theorem s_frz (i : Nat) {s : Stmt} {f : DS} (h : PS X s (tDS X.K xs wx f)) : PS X s (tDS X.K xs wx (frzS i f)) := ps_imp h fun D sg H q => by
  obtain ⟨F, io, st, env, fr, w⟩ := q
  obtain ⟨f1, e1⟩ := fr.freeze i
  exact ⟨F, io, st, frzE i env, f1, WantsS.later w e1⟩
end
theorem fn_mk {P : Program} {w : World} {K : PySem.W.Frag} {mg : Str → Option Value} {base : Heap} {xs : XS} {x : Str} {s : Stmt} {k n m : Nat} {body : DS} {h : Heap} (XK : K.In h) (G : h.Ns mainGlobals mg) {f : Addr} {od an : Option Addr} {sl : Array (Option Value)} {oc kV dc pm cd ct : Value} {N ps : List Str}
    (a : PySem.W.nsIn K mainGlobals x = some (some (.ref f))) (l : K.lookup f = some ⟨oc, od, .func (PySem.W.fnOf x x (defArgs s) (defBody s) (defScope s) .none kV dc pm an cd ct), sl⟩) (c : PySem.W.codeIn K cd x = true) (kp : PySem.W.keepIn K (.ref f) = true)
    (S : FnScope N ps (defScope s)) (hb : ∀ (us : List Value), us.length = ps.length → bindArgs (PySem.W.fnOf x x (defArgs s) (defBody s) (defScope s) .none kV dc pm an cd ct) ⟨us, []⟩ = Pure.pure (ps.zip us)) (hn : ps.length = n) (hm : N.length = m)
    (B : ∀ f fd, Fun K x x s f fd → FnOk P w K mg base (L2.CX P w) k f fd ps (spD K xs ps.length (runB N.length ps.length body))) : Fn P w K mg base xs x k n (runB m n body) := by
  subst hn; subst hm
  have F := fun_mk (st := s) l c kp
  exact ⟨⟨f, _, ps, PySem.W.mg_of XK G a, kp, .all hb, B f _ F⟩, fun us st h => runB_bad us st h⟩
end D
namespace D
open PySem L2
end D
namespace D
open PySem L2
section
variable {K : PySem.W.Frag} {F : Addr → Prop} {io : List Addr} {st : Store} {env : Env} {sg : L2.St} {H : Hp}
theorem Fr.alloc (f : Fr K F io st env sg H) {a : Addr} {o : HO} {ob : Ob} (na : H a = none) (hx : NX o) (new : ObRep K (Wf (Gs F env sg) (io ++ [a])) (io ++ [a]) (upd H a o) a ob) :
    Fr K F (io ++ [a]) (st ++ [ob]) env sg (upd H a o) ∧ Ext io H (io ++ [a]) (upd H a o) := by
  have nW : ¬ Wf (Gs F env sg) io a := f.ok.fresh na
  have s : Same H (upd H a o) := same_upd na
  have ex : Ext io H (io ++ [a]) (upd H a o) := ⟨⟨[a], rfl, fun b hb => by rw [List.mem_singleton] at hb; rw [hb]; exact na⟩, fun b u _ h => s b u h, fun b u h => ⟨u, s b u h⟩⟩
  have ok : Ok K (Gs F env sg) (io ++ [a]) (st ++ [ob]) (upd H a o) := by
    refine ⟨?_, fun b hb z => ?_, fun b hb => ?_, by simp [f.ok.len], fun n ob' b e1 e2 => ?_⟩
    · rw [List.nodup_append]
      refine ⟨f.ok.nd, by simp, fun x hx y hy e => ?_⟩
      rw [List.mem_singleton] at hy
      subst hy; subst e
      exact nW (.inr hx)
    · rcases List.mem_append.mp hb with h | h
      · exact f.ok.dj b h z
      · rw [List.mem_singleton] at h; subst h
        exact nW (.inl z)
    · by_cases e : b = a
      · subst e; exact ⟨o, upd_same, hx⟩
      · have hb' : Wf (Gs F env sg) io b := hb.imp id fun z => by
          rcases List.mem_append.mp z with h | h
          · exact h
          · exact (e (List.mem_singleton.mp h)).elim
        obtain ⟨u, q, x⟩ := f.ok.trk b hb'
        exact ⟨u, s b u q, x⟩
    · by_cases hn : n < io.length
      · rw [List.getElem?_append_left hn] at e2
        rw [List.getElem?_append_left (by rw [f.ok.len]; exact hn)] at e1
        exact (f.ok.obs n ob' b e1 e2).mono ex.mono (fun u q => s b u q) fun dd ws q => s _ _ q
      · rw [List.getElem?_append_right (Nat.le_of_not_lt hn)] at e2
        rw [List.getElem?_append_right (by rw [f.ok.len]; exact Nat.le_of_not_lt hn)] at e1
        rw [f.ok.len] at e1
        have h0 : n - io.length = 0 := by
          cases h : n - io.length with
          | zero => rfl
          | succ k => rw [h] at e2; simp at e2
        rw [h0] at e1 e2
        simp only [List.getElem?_cons_zero, Option.some.injEq] at e1 e2
        subst e1; subst e2
        exact new
  exact ⟨f.ext ok ex, ex⟩
theorem ow_set_un {i : Nat} {o : Option V} {a : Addr} (h : Ow (env.set i .un) (sg.set i o) a) : Ow env sg a := by
  obtain ⟨j, us, h1, h2⟩ := h
  by_cases hj : i = j
  · subst hj
    by_cases hl : i < env.length
    · rw [List.getElem?_set_self hl] at h1; cases h1
    · rw [List.getElem?_eq_none (by simpa using Nat.le_of_not_lt hl)] at h1; cases h1
  · rw [List.getElem?_set_ne hj] at h1 h2
    exact ⟨j, us, h1, h2⟩
theorem Fr.setUn (f : Fr K F io st env sg H) (i : Nat) : Fr K F io st (env.set i .un) (sg.set i none) H ∧ ExtO io H (Ow env sg) io H (Ow (env.set i .un) (sg.set i none)) := by
  have sub : ∀ a, Gs F (env.set i .un) (sg.set i none) a → Gs F env sg a := fun a h => h.imp id ow_set_un
  have ex : ExtO io H (Ow env sg) io H (Ow (env.set i .un) (sg.set i none)) := ⟨⟨[], by simp, fun _ h => nomatch h⟩, fun _ _ _ _ h => h, fun _ o h => ⟨o, h⟩, fun a h => .inl (ow_set_un h)⟩
  have m := ex.mono (F := F)
  refine ⟨⟨f.ok.mono sub, ⟨by simp [f.er.len], fun j s o h1 h2 => ?_⟩, fun a h => f.nF a (ow_set_un h), fun j k a us us' h1 h2 h3 h4 => ?_⟩, ex⟩
  · by_cases hj : i = j
    · subst hj
      by_cases hl : i < env.length
      · rw [List.getElem?_set_self hl] at h1
        cases h1
        trivial
      · rw [List.getElem?_eq_none (by simpa using Nat.le_of_not_lt hl)] at h1; cases h1
    · have g1 := h1; have g2 := h2
      rw [List.getElem?_set_ne hj] at h1 h2
      have q := f.er.sl j s o h1 h2
      cases s with
      | un => trivial
      | val u' => obtain ⟨v', q1, q2⟩ := q; exact ⟨v', q1, q2.mono m⟩
      | own us =>
        obtain ⟨a, vs, q1, q2, q3, q4⟩ := q
        subst q1
        exact ⟨a, vs, rfl, .inr ⟨j, us, g1, g2⟩, q3, q4.mono m⟩
  · have nj : ∀ (k : Nat) (us : List U), (env.set i .un)[k]? = some (.own us) → i ≠ k := fun k us h e => by
      subst e
      by_cases hl : i < env.length
      · rw [List.getElem?_set_self hl] at h; cases h
      · rw [List.getElem?_eq_none (by simpa using Nat.le_of_not_lt hl)] at h; cases h
    have n1 := nj j us h1
    have n2 := nj k us' h2
    rw [List.getElem?_set_ne n1] at h1 h3
    rw [List.getElem?_set_ne n2] at h2 h4
    exact f.dd j k a us us' h1 h2 h3 h4
end
/-- exceptions as this layer tells them -/
def XSd (K : PySem.W.Frag) : XS := fun c fs cls d H => ∃ C, clsAt K c = some C ∧ cls = .ref C ∧ XD fs d H
def tabB (l : List (Str × Bool)) (c : Str) : Option Bool := l.lookup c
def TabOk (l : List (Str × Bool)) (P : Str → Bool → Prop) : Prop := ∀ c b, tabB l c = some b → P c b
theorem tab_nil {P : Str → Bool → Prop} : TabOk [] P := fun _ _ h => nomatch h
theorem tab_cons {P : Str → Bool → Prop} {c : Str} {b : Bool} {l : List (Str × Bool)} (h : P c b) (t : TabOk l P) : TabOk ((c, b) :: l) P := fun c' b' e => by
  unfold tabB at e
  rw [List.lookup_cons] at e
  split at e
  · rename_i q
    cases e
    rw [beq_iff_eq.mp q]
    exact h
  · exact t c' b' e
theorem clsAt_of {K : PySem.W.Frag} {c : Str} {C : Addr} (h : PySem.W.nsIn K mainGlobals c = some (some (.ref C))) : clsAt K c = some C := by unfold clsAt; rw [h]
def sTryK (t : List (Str × Bool)) (i j : Nat) (b : DS) : DS := fun env st => match b env st with
  | .ex c fs env' st' => match tabB t c with
    | some true => .nx (((env'.set i (.val (.ref st'.length))).set j (.val (.ref st'.length))).set i .un) (st' ++ [.ins c fs])
    | some false => .ex c fs env' st'
    | none => .bad
  | o => o
end D
namespace D
open PySem L2
theorem law_sp {K : PySem.W.Frag} {xs : XS} {H : Hp} {a : Addr} {ns : List Int} {f : List U → Store → Rs U} (hS : SqL K H a (ns.map V.int)) (h : ∃ st', f [.scr ns] [] = .ok (.bl true) st') : spD K xs 1 f [.ref a] H (fun v _ => v = .bl true) fun _ _ _ => False := by
  obtain ⟨st', e⟩ := h
  refine ⟨rfl, fun _ => False, [], [], [.scr ns], ⟨List.nodup_nil, fun _ h => (nomatch h), fun a h => h.elim False.elim (fun z => nomatch z), rfl, fun n ob a h => nomatch h⟩, .cons ?_ .nil, ?_⟩
  · unfold Rep
    exact ⟨a, rfl, hS.imp (fun x => ⟨x, fun z => z.elim id fun z => nomatch z⟩) id⟩
  · rw [e]
    exact fun io' H' _ _ v hv => hv.bl'
theorem cx_no {P : Program} {w : World} {outer : List PySem.Env} {H : Hp} {s : Shared} {e : Value} {s' : Shared} (h : L2.CX P w outer H s (fun _ _ _ => False) e s') : False := by
  obtain ⟨_, _, _, _, _, _, _, _, _, _, _, _, z⟩ := h
  exact z
section
variable {X : Cx} {xs : XS} {wx : WX} {pos : Pos}
theorem d_gInt {x : Str} {i : Int} (hg : Gl X x) (hm : ∃ t, X.mg x = some (Value.int i t)) (hd : (x == ("__debug__" : Str)) = false := by decide) : PE X (.Name x pos) (tD X.K xs wx (cst (.int i))) := by
  obtain ⟨t, hm⟩ := hm
  exact d_cst (pe_glob (v := .int i) hg hm ⟨t, rfl⟩ hd) fun _ _ _ => by unfold Rep; rfl
theorem d_gStr {x : Str} {i : Str} (hg : Gl X x) (hm : ∃ t, X.mg x = some (Value.str i t)) (hd : (x == ("__debug__" : Str)) = false := by decide) : PE X (.Name x pos) (tD X.K xs wx (cst (.str i))) := by
  obtain ⟨t, hm⟩ := hm
  exact d_cst (pe_glob (v := .str i) hg hm ⟨t, rfl⟩ hd) fun _ _ _ => by unfold Rep; rfl
end
end D
namespace D
open PySem L2
section
variable {A B : Type}
@[simp] theorem bind_ok (a : A) (st : Store) (k : A → Store → Rs B) : (Rs.ok a st).bind k = k a st := (rfl)
@[simp] theorem bind_ex (c : Str) (us : List (Str × U)) (st : Store) (k : A → Store → Rs B) : (Rs.ex c us st : Rs A).bind k = .ex c us st := (rfl)
@[simp] theorem bind_bad (k : A → Store → Rs B) : (Rs.bad : Rs A).bind k = .bad := (rfl)
@[simp] theorem of_some (a : A) (st : Store) : Rs.of (some a) st = .ok a st := (rfl)
@[simp] theorem of_none (st : Store) : Rs.of (none : Option A) st = .bad := (rfl)
@[simp] theorem out_ok (a : A) (st : Store) (env : Env) (k : A → Store → Out) : (Rs.ok a st).out env k = k a st := (rfl)
@[simp] theorem out_ex (c : Str) (us : List (Str × U)) (st : Store) (env : Env) (k : A → Store → Out) : (Rs.ex c us st : Rs A).out env k = .ex c us env st := (rfl)
@[simp] theorem out_bad (env : Env) (k : A → Store → Out) : (Rs.bad : Rs A).out env k = .bad := (rfl)
@[simp] theorem noEx_ok (a : A) (st : Store) : noEx (Rs.ok a st) = .ok a st := (rfl)
@[simp] theorem noEx_bad : noEx (Rs.bad : Rs A) = .bad := (rfl)
@[simp] theorem seq_nx (env : Env) (st : Store) (k : Env → Store → Out) : (Out.nx env st).seq k = k env st := (rfl)
@[simp] theorem seq_rt (u : U) (st : Store) (k : Env → Store → Out) : (Out.rt u st).seq k = .rt u st := (rfl)
@[simp] theorem seq_bk (env : Env) (st : Store) (k : Env → Store → Out) : (Out.bk env st).seq k = .bk env st := (rfl)
@[simp] theorem seq_ct (env : Env) (st : Store) (k : Env → Store → Out) : (Out.ct env st).seq k = .ct env st := (rfl)
@[simp] theorem seq_ex (c : Str) (us : List (Str × U)) (env : Env) (st : Store) (k : Env → Store → Out) : (Out.ex c us env st).seq k = .ex c us env st := (rfl)
@[simp] theorem seq_bad (k : Env → Store → Out) : Out.bad.seq k = .bad := (rfl)
@[simp] theorem fin_rt (u : U) (st : Store) : fin (.rt u st) = .ok u st := (rfl)
@[simp] theorem fin_nx (env : Env) (st : Store) : fin (.nx env st) = .ok .non st := (rfl)
@[simp] theorem fin_ex (c : Str) (us : List (Str × U)) (env : Env) (st : Store) : fin (.ex c us env st) = .ex c us st := (rfl)
@[simp] theorem fin_bad : fin .bad = .bad := (rfl)
end
section
variable (env : Env) (st : Store)
@[simp] theorem cst_ap (u : U) : cst u env st = .ok u st := (rfl)
@[simp] theorem var_zero (u : U) (e : Env) : var 0 (.val u :: e) st = .ok u st := (rfl)
@[simp] theorem var_succ (i : Nat) (s : Sl) (e : Env) : var (i + 1) (s :: e) st = var i e st := (rfl)
@[simp] theorem bin_ap (g : U → U → Option U) (a b : DE) : bin g a b env st = (a env st).bind fun u st1 => (b env st1).bind fun v st2 => Rs.of (g u v) st2 := (rfl)
@[simp] theorem anil_ap : anil env st = .ok [] st := (rfl)
@[simp] theorem acons_ap (a : DE) (b : DA) : acons a b env st = (a env st).bind fun u st1 => (b env st1).bind fun us st2 => .ok (u :: us) st2 := (rfl)
@[simp] theorem appN_ap (g : List U → Option U) (a : DA) : appN g a env st = (a env st).bind fun us st1 => Rs.of (g us) st1 := (rfl)
@[simp] theorem appU_ap (g : List U → Store → Rs U) (a : DA) : appU g a env st = (a env st).bind fun us st1 => g us st1 := (rfl)
@[simp] theorem tst_ap (a : DE) : tst a env st = (a env st).bind fun u st1 => match u with
  | .bl b => .ok b st1
  | _ => .bad := (rfl)
@[simp] theorem andT_ap (a b : DT) : andT a b env st = (a env st).bind fun c st1 => if c = true then b env st1 else .ok false st1 := (rfl)
@[simp] theorem orT_ap (a b : DT) : orT a b env st = (a env st).bind fun c st1 => if c = true then .ok true st1 else b env st1 := (rfl)
@[simp] theorem notT_ap (a : DT) : notT a env st = (a env st).bind fun c st1 => .ok (!c) st1 := (rfl)
@[simp] theorem yesT_ap : yesT env st = .ok true st := (rfl)
@[simp] theorem chain_ap (g h : U → U → Option U) (a b c : DE) : chain g h a b c env st = (a env st).bind fun u st1 => (b env st1).bind fun v st2 => match g u v with
  | some (.bl k) => if k = true then (c env st2).bind fun w st3 => Rs.of (h v w) st3 else .ok (.bl false) st2
  | _ => .bad := (rfl)
@[simp] theorem andV_ap (a b : DE) : andV a b env st = (a env st).bind fun u st1 => match u with
  | .bl c => if c = true then b env st1 else .ok (.bl false) st1
  | _ => .bad := (rfl)
@[simp] theorem orV_ap (a b : DE) : orV a b env st = (a env st).bind fun u st1 => match u with
  | .bl c => if c = true then .ok (.bl true) st1 else b env st1
  | _ => .bad := (rfl)
@[simp] theorem notV_ap (a : DE) : notV a env st = (a env st).bind fun u st1 => match u with
  | .bl c => .ok (.bl (!c)) st1
  | _ => .bad := (rfl)
@[simp] theorem ifE_ap (c : DT) (a b : DE) : ifE c a b env st = (c env st).bind fun t st1 => if t = true then a env st1 else b env st1 := (rfl)
@[simp] theorem neg1D_ap (a : DE) : neg1D a env st = (a env st).bind fun u st1 => Rs.of (neg1 u) st1 := (rfl)
@[simp] theorem newL_ap (f : DL) : newL f env st = (f env st).bind fun us st1 => .ok (.lst us) st1 := (rfl)
@[simp] theorem szDL_ap (f : DA) : szDL f env st = (f env st).bind fun us st1 => if us.length ≤ sizeLine then .ok us st1 else .bad := (rfl)
@[simp] theorem itemsD_ap (f : DE) : itemsD f env st = (f env st).bind fun u st1 => Rs.of (items u) st1 := (rfl)
@[simp] theorem itA_ap (g : List U → Option (List U)) (f : DA) : itA g f env st = (f env st).bind fun us st1 => Rs.of (g us) st1 := (rfl)
@[simp] theorem compD_ap (f : DL) (vs : List Nat) (t : Tg) (c : DT) (e : DE) : compD f vs t c e env st = (f env st).bind fun us st1 => if us.length ≤ sizeLine then noEx (compL t c e us (wipeE env vs) st1) else .bad := (rfl)
@[simp] theorem noO_ap : noO env st = .ok none st := (rfl)
@[simp] theorem soO_ap (f : DE) : soO f env st = (f env st).bind fun u st1 => match u with
  | .int i => .ok (some i) st1
  | _ => .bad := (rfl)
@[simp] theorem slD_ap (f : DE) (a b : DO) : slD f a b env st = (f env st).bind fun u st1 => (a env st1).bind fun lo st2 => (b env st2).bind fun hi st3 => Rs.of (sl3 u lo hi) st3 := (rfl)
@[simp] theorem dispD_ap (ps : List (DE × DE)) : dispD ps env st = (noEx (pairsE ps env st)).bind fun l st1 => Rs.of (dispU l) st1 := (rfl)
@[simp] theorem sNil_ap : sNil env st = .nx env st := (rfl)
@[simp] theorem sSeq_ap (f g : DS) : sSeq f g env st = (f env st).seq g := (rfl)
@[simp] theorem sExpr_ap (f : DE) : sExpr f env st = (f env st).out env fun _ st1 => .nx env st1 := (rfl)
@[simp] theorem sRet_ap (f : DE) : sRet f env st = (f env st).out env fun u st1 => .rt u st1 := (rfl)
@[simp] theorem sRetN_ap : sRetN env st = .rt .non st := (rfl)
@[simp] theorem sIf_ap (c : DT) (f g : DS) : sIf c f g env st = (c env st).out env fun b st1 => if b = true then f env st1 else g env st1 := (rfl)
@[simp] theorem sSet_ap (i : Nat) (f : DE) : sSet i f env st = (f env st).out env fun u st1 => .nx (env.set i (.val u)) st1 := (rfl)
@[simp] theorem sOwn_ap (i : Nat) (f : DL) : sOwn i f env st = (f env st).out env fun us st1 => if i < env.length then .nx (env.set i (.own us)) st1 else .bad := (rfl)
@[simp] theorem sApp_ap (i : Nat) (f : DE) : sApp i f env st = match env[i]? with
  | some (.own us) => (f env st).out env fun u st1 => if us.length < sizeLine then .nx (env.set i (.own (us ++ [u]))) st1 else .bad
  | _ => .bad := (rfl)
@[simp] theorem frzS_ap (i : Nat) (f : DS) : frzS i f env st = f (frzE i env) st := (rfl)
@[simp] theorem sFor_ap (f : DL) (t : Tg) (b : DS) : sFor f t b env st = (f env st).out env fun us st1 => forL t b us env st1 := (rfl)
@[simp] theorem setE_nil : setE env [] = env := (rfl)
@[simp] theorem setE_cons (p : Nat × U) (l : List (Nat × U)) : setE env (p :: l) = setE (env.set p.1 (.val p.2)) l := (rfl)
@[simp] theorem tgN_ap (i : Nat) (u : U) : tgN i u = some [(i, u)] := (rfl)
end
@[simp] theorem runB_ap (m n : Nat) (body : DS) (us : List U) (st : Store) : runB m n body us st = if us.length = n then fin (body (env0 m us) st) else .bad := (rfl)
@[simp] theorem env0_ap (m : Nat) (us : List U) : env0 m us = us.map Sl.val ++ List.replicate (m - us.length) .un := (rfl)
@[simp] theorem sizeLine_val : sizeLine = 16777216 := by decide +kernel
theorem for_nil (t : Tg) (b : DS) (env : Env) (st : Store) : forL t b [] env st = .nx env st := (rfl)
theorem comp_cons (t : Tg) (c : DT) (e : DE) (u : U) (us : List U) (env : Env) (st : Store) : compL t c e (u :: us) env st = match t u with
    | none => .bad
    | some l => (c (setE env l) st).bind fun b st1 => if b = true then (e (setE env l) st1).bind fun v st2 => (compL t c e us env st2).bind fun r st3 => .ok (v :: r) st3 else compL t c e us env st1 := (rfl)
theorem comp_allM {T : Type} {t : Tg} {e : DE} {env : Env} {st : Store} {f g : T → U} : ∀ (l : List T), (∀ c ∈ l, ∃ a, t (f c) = some a ∧ e (setE env a) st = .ok (g c) st) → compL t yesT e (l.map f) env st = .ok (l.map g) st
  | [], _ => rfl
  | c :: l, h => by
    obtain ⟨a, h1, h2⟩ := h c List.mem_cons_self
    have ih := comp_allM l fun x hx => h x (List.mem_cons_of_mem _ hx)
    rw [List.map_cons, comp_cons, h1]
    simp only [yesT_ap, bind_ok, if_true, h2, ih, List.map_cons]
theorem for_cons (t : Tg) (b : DS) (u : U) (us : List U) (env : Env) (st : Store) : forL t b (u :: us) env st = match t u with
    | none => .bad
    | some l => match b (setE env l) st with
      | .nx env2 st2 => forL t b us env2 st2
      | .ct env2 st2 => forL t b us env2 st2
      | .bk env2 st2 => .nx env2 st2
      | .rt u st2 => .rt u st2
      | .ex c us env2 st2 => .ex c us env2 st2
      | .bad => .bad := rfl
/-- a loop by what holds of the slots between its turns -/
theorem for_inv {t : Tg} {b : DS} {st : Store} (I : List U → Env → Prop) : ∀ (us : List U) (env : Env), I us env → (∀ u r env, u :: r <:+ us → I (u :: r) env → ∃ l env', t u = some l ∧ (b (setE env l) st = .nx env' st ∨ b (setE env l) st = .ct env' st) ∧ I r env') → ∃ env', forL t b us env st = .nx env' st ∧ I [] env'
  | [], env, h, _ => ⟨env, rfl, h⟩
  | u :: us, env, h, step => by
    obtain ⟨l, env1, h1, h2, h3⟩ := step u us env (List.suffix_refl _) h
    obtain ⟨env2, e, q⟩ := for_inv I us env1 h3 fun v r e hs hi => step v r e (hs.trans (List.suffix_cons _ _)) hi
    refine ⟨env2, ?_, q⟩
    rw [for_cons, h1]
    rcases h2 with h2 | h2
    · simp only [h2, e]
    · simp only [h2, e]
end D
namespace D
open PySem L2
theorem eqU_str (x y : Str) : eqU (.str x) (.str y) = decide (x = y) := by
  unfold eqU pd PyData.eqv
  by_cases h : x = y
  · subst h; simp
  · rw [decide_eq_false h]; exact beq_eq_false_iff_ne.mpr h
/-- a loop over the numbers below n -/
theorem for_rng {j : Nat} {b : DS} {st : Store} (n : Nat) (I : Nat → Env → Prop) {env : Env} (h0 : I 0 env) (step : ∀ k env, k < n → I k env → ∃ env', (b (env.set j (.val (.int (k : Nat)))) st = .nx env' st ∨ b (env.set j (.val (.int (k : Nat)))) st = .ct env' st) ∧ I (k + 1) env') :
    ∃ env', forL (tgN j) b ((List.range n).map fun i => U.int (i : Nat)) env st = .nx env' st ∧ I n env' := by
  obtain ⟨env', h1, k, h2, h3, h4⟩ := for_inv (t := tgN j) (b := b) (st := st) (fun r env => ∃ k, r = ((List.range n).drop k).map (fun i => U.int (i : Nat)) ∧ k ≤ n ∧ I k env) ((List.range n).map fun i => U.int (i : Nat)) env ⟨0, by simp, Nat.zero_le _, h0⟩ (fun u r env _ hI => by
    obtain ⟨k, hr, hk, hI⟩ := hI
    have hlt : k < n := by
      refine Decidable.byContradiction fun z => ?_
      rw [List.drop_eq_nil_of_le (by simpa using Nat.le_of_not_lt z)] at hr
      cases hr
    rw [List.drop_eq_getElem_cons (by simpa using hlt), List.map_cons] at hr
    injection hr with hu hr
    rw [List.getElem_range] at hu
    subst hu
    obtain ⟨env', h1, h2⟩ := step k env hlt hI
    exact ⟨_, env', rfl, h1, k + 1, hr, hlt, h2⟩)
  refine ⟨env', h1, ?_⟩
  have : k = n := by
    have := congrArg List.length h2
    simp at this
    omega
  rw [← this]; exact h4
theorem atI_at {A : Type} {l : List A} {k : Nat} {x : A} (h : l[k]? = some x) : atI l (k : Int) = some x := atI_nat h
end D
namespace C
open PySem L2 D
theorem rng1_nat (n : Nat) (h : n ≤ 1000000) : rng1 [.int (n : Int)] = some ((List.range n).map fun i => U.int (i : Nat)) := by
  unfold rng1
  dsimp only
  rw [if_pos ⟨by omega, by omega⟩, Int.toNat_natCast]
end C
namespace D
open PySem L2
def IteT (K : PySem.W.Frag) (t : Addr) : It where
  go := fun n H => ∃ (ws : List V) (w : V), SqT K H t ws ∧ ws[n]? = some w
  yld := fun n H v H' => ∃ q w, v = .ref q ∧ H q = none ∧ H' = upd H q (.tup [.int (n : Nat), w]) ∧ ∀ ws, SqT K H t ws → ws[n]? = some w
  stop := fun n H => ∃ ws : List V, SqT K H t ws ∧ ws.length ≤ n
theorem draws_over {P : Program} {w : World} {B : Around} (hB : B.handled = none) (j t : Addr) (n : Nat) (its : Array Value) (hn : its[n]? = none) :
    Draws P w B j [j, t] n (fun _ _ => True) (fun m h => m = n ∧ h.IsTupleIter j t n ∧ h.IsTuple t its) where
  live := fun _ _ q => let ⟨o, ho, _⟩ := q.2.1; ⟨o, ho⟩
  frame := fun _ _ _ q kp => ⟨q.1, q.2.1.at fun o z => kp j (by simp) o z, q.2.2.at fun o z => kp t (by simp) o z⟩
  item := fun m sh Q E lt q hQ => absurd q.1 (Nat.ne_of_lt lt)
  done := fun sh Q E q hE => wpAny_nextOf_tuple_end hB q.2.1 q.2.2 hn hE
theorem turn_enumT {P : Program} {w : World} {K : PySem.W.Frag} {els : List Expr} {k2 : Nat} {tp : Pos} (t e j : Addr) (htj : t ≠ j) (het : e ≠ t) (hej : e ≠ j) :
    Turn P w K (.Tuple els k2 tp) (IteT K t) [e, j] e (fun n h => (∃ was, IsEnum h e j ((n : Nat) : Int) was) ∧ h.IsTupleIter j t n) := by
  have two : ∀ b, b ∈ [e, j] → b = e ∨ b = j := fun b hb => by simpa using hb
  refine ⟨List.mem_cons_self, fun n h q b hb => ?_, fun n h h' q kp => ?_, ?_, ?_, ?_⟩
  · obtain ⟨⟨was, he⟩, ⟨o, ho, _, hd⟩⟩ := q
    rcases two b hb with z | z
    · rw [z]; exact ⟨_, he, fun v y => nomatch y⟩
    · rw [z]; exact ⟨o, ho, fun v y => by rw [hd] at y; cases y⟩
  · obtain ⟨⟨was, he⟩, hj⟩ := q
    exact ⟨⟨was, kp e List.mem_cons_self _ he⟩, hj.at fun o z => kp j (by simp) o z⟩
  · intro X eP ew eK calm n pins sh sg H E I fpk q go
    subst eP; subst ew; subst eK
    obtain ⟨⟨was, he⟩, hj⟩ := q
    obtain ⟨ws, w, sq, hw⟩ := go
    obtain ⟨its, rv, p, _⟩ := I.tuple sq
    obtain ⟨u, hu, ru⟩ := rv.get hw
    have p' : sh.heap.IsTuple t its.toArray := p
    have le : e < sh.heap.objs.size := Heap.lt_size he
    have lj : j < sh.heap.objs.size := by obtain ⟨_, z, _⟩ := hj; exact Heap.lt_size z
    have hn : n < its.length := (List.getElem?_eq_some_iff.mp hu).1
    refine wpAny_pyNext_enum_itemD (Draws.tuple (prog := X.prog) (w := X.w) (A := X.A.in1) (I.ok.hd calm) j t htj its.toArray) he ⟨hj, p'⟩ (by simpa using hn) hej (by simp [hej, het]) fun x h' tk hx out st' new hsz kp => ?_
    have hxu : x = u := by
      have hx : its.toArray[n]? = some x := hx
      rw [List.getElem?_toArray, hu] at hx
      exact (Option.some.inj hx).symm
    subst hxu
    refine ⟨_, rfl, wpAny_letOwnedTupleGo_enum (s := { sh with heap := h', toks := tk + 1 }) out fun h2 he2 sb => ?_⟩
    have at2 : h2.get? sh.heap.objs.size = some { cls := .type "tuple", data := .seq #[.int n tk, x] } := (sb.2 _ (Nat.ne_of_gt le)).trans new
    have ob : ObjOk X.prog X.w (upd H sh.heap.objs.size (.tup [.int (n : Nat), w])) h2 sh.heap.objs.size (.tup [.int (n : Nat), w]) := ⟨by show 2 ≤ sizeLine; decide, [.int n tk, x], .cons ⟨_, rfl⟩ (.cons ru .nil), ⟨_, at2, rfl, _, rfl⟩⟩
    have I2 : Inv X pins sg (upd H sh.heap.objs.size (.tup [.int (n : Nat), w])) { sh with heap := h2, toks := tk + 1 } :=
      I.turnedNew (ch := [e, j]) (fun b o hb z => (sb.2 b fun y => hb (by simp [y])).trans (kp b o (fun y => hb (by simp [y])) (fun y => hb (by simp [y])) z)) fpk (Nat.le_refl _) ob
    refine ⟨.ref sh.heap.objs.size, _, I2, rfl, ⟨_, w, rfl, I.hok.fresh (Nat.le_refl _), rfl, fun ys hy => by rw [I.tuple_inj hy sq]; exact hw⟩, ⟨⟨x, ?_⟩, st'.1.at fun o z => (sb.2 j (Ne.symm hej)).trans z⟩, fun b hb => ?_⟩
    · have : ((n + 1 : Nat) : Int) = (n : Int) + 1 := by omega
      rw [this]; exact he2
    · have lb : b < sh.heap.objs.size := by
        rcases two b hb with z | z
        · rw [z]; exact le
        · rw [z]; exact lj
      rw [upd_ne (Nat.ne_of_lt lb)]
      exact (fpk b hb).1
  · intro X eP ew eK calm n pins sh sg H E I fpk q go
    subst eP; subst ew; subst eK
    obtain ⟨⟨was, he⟩, hj⟩ := q
    obtain ⟨ws, sq, hw⟩ := go
    obtain ⟨its, rv, p, _⟩ := I.tuple sq
    have p' : sh.heap.IsTuple t its.toArray := p
    have len := rv.length
    obtain ⟨f0, f1, f2, f3, f4, f5⟩ := fpk j (by simp)
    exact wpAny_pyNext_enum_endD (draws_over (P := X.prog) (w := X.w) (B := X.A.in1) (I.ok.hd calm) j t n its.toArray (by simp; omega)) he ⟨rfl, hj, p'⟩ fun h' eb => ⟨rfl, I.turned (t' := sh.toks) (fun b o hb z => eb b o hb z) f0 f1 f3 f4 f5⟩
  · intro A n sh Q E q hQ
    obtain ⟨⟨_, he⟩, _⟩ := q
    exact wpAny_pyIter_enum he hQ
set_option maxHeartbeats 1000000 in
theorem meets_enum1 {v : Value} {ob : Obj} {Hh : Heap → Prop} (B : Begins v ob Hh) :
    Meets (Builtin.«enumerate.__new__» ⟨[.type "enumerate", v], []⟩) (fun _ R sh => Hh sh.heap ∧
      R (.ok (.ret (.ref (sh.heap.push ob).objs.size))) { sh with heap := (sh.heap.push ob).push { cls := .type "enumerate", data := .fields #[.none, .bool false, .ref sh.heap.objs.size, rawInt 0, .none, .none] } }) := by
  refine .of_wp fun P w A R sh h => ?_
  obtain ⟨hp, g, d, tk, os⟩ := sh
  obtain ⟨h1, h⟩ := h
  have isSub := sub_enumerate
  have begin1 : ∀ {A2 : Around} {E : Value → Shared → Prop} {Q : Value → Shared → Prop}, Q (.ref hp.objs.size) ⟨hp.push ob, g, d, tk, os⟩ → wpAny (model P w) A2 (pyIter v) Q E ⟨hp, g, d, tk, os⟩ := fun q => B.iter P w _ _ ⟨hp, g, d, tk, os⟩ _ h1 q
  wp_walk using begin1
  refine wpAny_stack_any fun _ => wpAny_pure ?_
  split
  · rename_i c _ _ _ _ _
    cases (c == Value.type "enumerate") <;> (wp_walk using begin1; exact ⟨_, rfl, h⟩)
  · wp_walk using begin1
    exact ⟨_, rfl, h⟩
section
variable {P : Program} {w : World} {A : Around} {E : Value → Shared → Prop} {sh : Shared}
theorem call_enumT {t : Addr} {its : Array Value} {Q : Value → Shared → Prop} (hT : sh.heap.IsTuple t its)
    (h : ∀ h', IsEnum h' (sh.heap.objs.size + 1) sh.heap.objs.size 0 .none → h'.IsTupleIter sh.heap.objs.size t 0 → (∀ b o, sh.heap.get? b = some o → h'.get? b = some o) → Q (.ref (sh.heap.objs.size + 1)) { sh with heap := h' }) :
    wpAny (model P w) A (call (.type "enumerate") [.ref t]) Q E sh := by
  refine callType_new F.called_enumerate (by decide) (F.typeCall_enumerate_1 _) (F.newCall_enumerate_1 _) (fun x => F.args_object_init_2 x _) F.entry_enumerate_new (meets_enum1 (begins_tuple t its)) ⟨hT, ?_⟩
  have hz : (sh.heap.push { cls := .type "tuple_iterator", data := .fields #[.ref t, .int 0 0] }).objs.size = sh.heap.objs.size + 1 := by rw [Heap.size_push]
  have he := Heap.get?_push_size (sh.heap.push { cls := .type "tuple_iterator", data := .fields #[.ref t, .int 0 0] }) (o := { cls := .type "enumerate", data := .fields #[.none, .bool false, .ref sh.heap.objs.size, rawInt 0, .none, .none] }) rfl
  show _ ∧ _
  rw [hz]
  rw [hz] at he
  exact ⟨⟨_, he, rfl⟩, h _ he ⟨_, Heap.get?_push_of_some _ (Heap.get?_push_size _ rfl), rfl, rfl⟩ fun b o x => Heap.get?_push_of_some _ (Heap.get?_push_of_some _ x)⟩
end
def iEnA (K : PySem.W.Frag) (ta : TA) : TI := fun sg H R => ta sg H fun vs H1 => ∃ a ws, vs = [.ref a] ∧ ((SqL K H1 a ws ∧ R (Ite K a) H1) ∨ (SqT K H1 a ws ∧ R (IteT K a) H1))
theorem pi_enumA {X : Cx} {e : Expr} {ta : TA} {p pos tp : Pos} {els : List Expr} {k2 : Nat} (hg : Gl X "enumerate") (hm : X.mg "enumerate" = none) (ha : PA X [e] ta) (hs : starEach [e] X.env = [(false, eval e X.env)] := by rfl) :
    PI X (.Tuple els k2 tp) (.Call (.Name "enumerate" p) [e] [] pos) (iEnA X.K ta) := by
  refine ⟨fun pins s sg H R I h => ?_⟩
  refine PyProof.Rows.Call_ (ld_blt I hg hm PyProof.Rows.boot_enumerate (PyProof.Rows.callWith_type1 (thn (ha.run pos pins s sg H _ I h) fun us s1 ⟨vs, H1, I1, r1, q1⟩ => ?_) hs rfl))
  obtain ⟨a, ws, rfl, q1⟩ := q1
  have two : ∀ b, b ∈ [s1.heap.objs.size + 1, s1.heap.objs.size] → FpOk X pins H1 b := fun b hb => by
    have hle : s1.heap.objs.size ≤ b := by
      have : b = s1.heap.objs.size + 1 ∨ b = s1.heap.objs.size := by simpa using hb
      omega
    exact I1.fpOk hle (I1.hok.fresh hle)
  cases r1 with
  | cons r rr =>
    cases rr
    cases r
    rcases q1 with ⟨sq, q⟩ | ⟨sq, q⟩
    · obtain ⟨its, rv, p', _⟩ := I1.list sq
      exact call_enumerate_list p'.isList fun h' he hit hsz hk => wpAny_pyIter_enum he ⟨s1.heap.objs.size + 1, _, _, _, H1, rfl, I1.kept (t' := s1.toks) hk, turn_enum a (s1.heap.objs.size + 1) s1.heap.objs.size, ⟨⟨.none, he⟩, hit, Nat.succ_ne_self _⟩, two, q⟩
    · obtain ⟨its, rv, p', _⟩ := I1.tuple sq
      have la : a < s1.heap.objs.size := by obtain ⟨_, z, _⟩ := id p'; exact Heap.lt_size z
      exact call_enumT (show s1.heap.IsTuple a its.toArray from p') fun h' he hit hk => wpAny_pyIter_enum he ⟨s1.heap.objs.size + 1, _, _, _, H1, rfl, I1.kept (t' := s1.toks) hk,
        turn_enumT a (s1.heap.objs.size + 1) s1.heap.objs.size (Nat.ne_of_lt la) (Nat.ne_of_gt (Nat.lt_succ_of_lt la)) (Nat.succ_ne_self _), ⟨⟨.none, he⟩, hit⟩, two, q⟩
def numU (us : List U) : List U := us.mapIdx fun i u => U.tup [.int (i : Nat), u]
def enumerateN : List U → Option (List U)
  | [.lst us] => some (numU us)
  | [.tup us] => some (numU us)
  | [.scr ns] => some (numU (ns.map U.int))
  | _ => none
def zipU (us ws : List U) : List U := List.zipWith (fun a b => U.tup [a, b]) us ws
def zipN : List U → Option (List U)
  | [.lst us, .lst ws] => some (zipU us ws)
  | [.tup us, .tup ws] => some (zipU us ws)
  | _ => none
section
variable {K : PySem.W.Frag} {G : Addr → Prop} {io : List Addr} {H : Hp}
theorem newPair {G' : Addr → Prop} {io' : List Addr} {st' : Store} {H' : Hp} {q : Addr} {u w : U} {x y : V} (ok : Ok K G' io' st' H') (hq : H' q = none) (r1 : Rep K (Wf G' io') io' H' u x) (r2 : Rep K (Wf G' io') io' H' w y) :
    Rep K (Wf G' io') io' (upd H' q (.tup [x, y])) (.tup [u, w]) (.ref q) := ok.newT hq (.cons r1 (.cons r2 .nil))
theorem wk_enL {a : Addr} {us : List U} {vs : List V} (h : ∀ (G' : Addr → Prop) (io' : List Addr) (H' : Hp), Mono G io H G' io' H' → SqL K H' a vs) (r : Reps K (Wf G io) io H us vs) : Wk K G (Ite K a) io H (numU us) := by
  have hl : (numU us).length = us.length := by unfold numU; exact List.length_mapIdx
  refine ⟨fun i G' io' st' H' ok m hi => ?_, fun i G' io' st' H' ok m hi => ⟨vs, h _ _ _ m, by rw [← r.length]; omega⟩⟩
  have hi' : i < us.length := by omega
  obtain ⟨v, hv, rv⟩ := r.get (List.getElem?_eq_getElem hi')
  refine ⟨⟨vs, v, h _ _ _ m, hv⟩, fun x H'' y => ?_⟩
  obtain ⟨q, w, rfl, hq, rfl, hw⟩ := y
  have e := (hw vs (h _ _ _ m)).symm.trans hv
  cases e
  refine ⟨same_upd hq, .tup [.int (i : Nat), us[i]], by unfold numU; simp [hi'], newPair ok hq (rInt _) (rv.mono m)⟩
theorem wk_enT {a : Addr} {us : List U} {vs : List V} (h : ∀ (G' : Addr → Prop) (io' : List Addr) (H' : Hp), Mono G io H G' io' H' → SqT K H' a vs) (r : Reps K (Wf G io) io H us vs) : Wk K G (IteT K a) io H (numU us) := by
  have hl : (numU us).length = us.length := by unfold numU; exact List.length_mapIdx
  refine ⟨fun i G' io' st' H' ok m hi => ?_, fun i G' io' st' H' ok m hi => ⟨vs, h _ _ _ m, by rw [← r.length]; omega⟩⟩
  have hi' : i < us.length := by omega
  obtain ⟨v, hv, rv⟩ := r.get (List.getElem?_eq_getElem hi')
  refine ⟨⟨vs, v, h _ _ _ m, hv⟩, fun x H'' y => ?_⟩
  obtain ⟨q, w, rfl, hq, rfl, hw⟩ := y
  have e := (hw vs (h _ _ _ m)).symm.trans hv
  cases e
  refine ⟨same_upd hq, .tup [.int (i : Nat), us[i]], by unfold numU; simp [hi'], newPair ok hq (rInt _) (rv.mono m)⟩
theorem wk_zipL {a b : Addr} {us ws : List U} {vs xs : List V} (h1 : LL K (Wf G io) H a vs) (r1 : Reps K (Wf G io) io H us vs) (h2 : LL K (Wf G io) H b xs) (r2 : Reps K (Wf G io) io H ws xs) : Wk K G (Itz K a b) io H (zipU us ws) := by
  have hl : (zipU us ws).length = min us.length ws.length := by unfold zipU; simp
  refine ⟨fun i G' io' st' H' ok m hi => ?_, fun i G' io' st' H' ok m hi => ⟨vs, xs, (h1.mono m).sq, (h2.mono m).sq, by rw [← r1.length, ← r2.length]; omega⟩⟩
  have i1 : i < us.length := by omega
  have i2 : i < ws.length := by omega
  obtain ⟨v1, hv1, rv1⟩ := r1.get (List.getElem?_eq_getElem i1)
  obtain ⟨v2, hv2, rv2⟩ := r2.get (List.getElem?_eq_getElem i2)
  refine ⟨⟨vs, xs, v1, v2, (h1.mono m).sq, (h2.mono m).sq, hv1, hv2⟩, fun x H'' y => ?_⟩
  obtain ⟨q, w1, w2, rfl, hq, rfl, hw1, hw2⟩ := y
  have e1 := (hw1 vs (h1.mono m).sq).symm.trans hv1
  have e2 := (hw2 xs (h2.mono m).sq).symm.trans hv2
  cases e1; cases e2
  refine ⟨same_upd hq, .tup [us[i], ws[i]], by unfold zipU; rw [List.getElem?_zipWith, List.getElem?_eq_getElem i1, List.getElem?_eq_getElem i2], newPair ok hq (rv1.mono m) (rv2.mono m)⟩
theorem wk_zipT {a b : Addr} {us ws : List U} {vs xs : List V} (h1 : LT K (Wf G io) H a vs) (r1 : Reps K (Wf G io) io H us vs) (h2 : LT K (Wf G io) H b xs) (r2 : Reps K (Wf G io) io H ws xs) : Wk K G (RZ.ItzT K a b) io H (zipU us ws) := by
  have hl : (zipU us ws).length = min us.length ws.length := by unfold zipU; simp
  refine ⟨fun i G' io' st' H' ok m hi => ?_, fun i G' io' st' H' ok m hi => ⟨vs, xs, (h1.mono m).sq, (h2.mono m).sq, by rw [← r1.length, ← r2.length]; omega⟩⟩
  have i1 : i < us.length := by omega
  have i2 : i < ws.length := by omega
  obtain ⟨v1, hv1, rv1⟩ := r1.get (List.getElem?_eq_getElem i1)
  obtain ⟨v2, hv2, rv2⟩ := r2.get (List.getElem?_eq_getElem i2)
  refine ⟨⟨vs, xs, v1, v2, (h1.mono m).sq, (h2.mono m).sq, hv1, hv2⟩, fun x H'' y => ?_⟩
  obtain ⟨q, w1, w2, rfl, hq, rfl, hw1, hw2⟩ := y
  have e1 := (hw1 vs (h1.mono m).sq).symm.trans hv1
  have e2 := (hw2 xs (h2.mono m).sq).symm.trans hv2
  cases e1; cases e2
  refine ⟨same_upd hq, .tup [us[i], ws[i]], by unfold zipU; rw [List.getElem?_zipWith, List.getElem?_eq_getElem i1, List.getElem?_eq_getElem i2], newPair ok hq (rv1.mono m) (rv2.mono m)⟩
end
section
variable {X : Cx} {xs : XS} {wx : WX} {pos : Pos} {tg : Expr}
theorem i_enumerate {e : Expr} {f : DA} {p tp : Pos} {els : List Expr} {k2 : Nat} (hg : Gl X "enumerate") (hm : X.mg "enumerate" = none) (ha : PA X [e] (tDA X.K xs wx f)) (hs : starEach [e] X.env = [(false, eval e X.env)] := by rfl) :
    PI X (.Tuple els k2 tp) (.Call (.Name "enumerate" p) [e] [] pos) (tI X.K xs wx (itA enumerateN f)) := pi_imp (pi_enumA hg hm ha hs) fun sg H R q => by
  obtain ⟨G, io, st, env, ok, er, w⟩ := q
  refine ⟨G, io, st, env, ok, er, w.bind.impR fun st1 io1 H1 us ok1 e1 w1 vs rvs => ?_⟩
  obtain ⟨ws, hu, w2⟩ := w1.pure
  unfold enumerateN at hu
  split at hu
  · cases hu
    obtain ⟨v, rfl, rv⟩ := rvs.one
    obtain ⟨a, ys, rfl, l, r'⟩ := rv.lst'
    exact ⟨a, ys, rfl, .inl ⟨l.sq, w2.here ok1 _ (wk_enL (fun _ _ _ m => (l.mono m).sq) r')⟩⟩
  · cases hu
    obtain ⟨v, rfl, rv⟩ := rvs.one
    obtain ⟨a, ys, rfl, l, r'⟩ := rv.tup'
    exact ⟨a, ys, rfl, .inr ⟨l.sq, w2.here ok1 _ (wk_enT (fun _ _ _ m => (l.mono m).sq) r')⟩⟩
  · cases hu
    obtain ⟨v, rfl, rv⟩ := rvs.one
    obtain ⟨a, rfl, l⟩ := rv.scr'
    exact ⟨a, _, rfl, .inl ⟨l.sq, w2.here ok1 _ (wk_enL (fun _ _ _ m => (l.mono m).sq) (Reps.ints _))⟩⟩
  · cases hu
theorem i_zip {e e2 : Expr} {f : DA} {p tp : Pos} {els : List Expr} {k2 : Nat} (hg : Gl X "zip") (hm : X.mg "zip" = none) (ha : PA X [e, e2] (tDA X.K xs wx f)) (hs : starEach [e, e2] X.env = (false, eval e X.env) :: starEach [e2] X.env := by rfl) (hpl : (backTo pos (starEach [e2] X.env)).any (·.1) = false := by rfl) :
    PI X (.Tuple els k2 tp) (.Call (.Name "zip" p) [e, e2] [] pos) (tI X.K xs wx (itA zipN f)) := pi_imp (RZ.pi_zipA hg hm ha hs hpl) fun sg H R q => by
  obtain ⟨G, io, st, env, ok, er, w⟩ := q
  refine ⟨G, io, st, env, ok, er, w.bind.impR fun st1 io1 H1 us ok1 e1 w1 vs rvs => ?_⟩
  obtain ⟨ws, hu, w2⟩ := w1.pure
  unfold zipN at hu
  split at hu
  · cases hu
    obtain ⟨v, x, rfl, rv, rx⟩ := rvs.two
    obtain ⟨a, ys, rfl, l, r'⟩ := rv.lst'
    obtain ⟨b, zs, rfl, l2, r2⟩ := rx.lst'
    exact ⟨a, b, ys, zs, rfl, .inl ⟨l.sq, l2.sq, w2.here ok1 _ (wk_zipL l r' l2 r2)⟩⟩
  · cases hu
    obtain ⟨v, x, rfl, rv, rx⟩ := rvs.two
    obtain ⟨a, ys, rfl, l, r'⟩ := rv.tup'
    obtain ⟨b, zs, rfl, l2, r2⟩ := rx.tup'
    exact ⟨a, b, ys, zs, rfl, .inr ⟨l.sq, l2.sq, w2.here ok1 _ (wk_zipT l r' l2 r2)⟩⟩
  · cases hu
def itE (g : U → Option (List U)) (f : DE) : DL := fun env st => (f env st).bind fun u st1 => Rs.of (g u) st1
def rev1 : U → Option (List U)
  | .lst us => some us.reverse
  | .tup us => some us.reverse
  | _ => none
end
end D
namespace D
open PySem L2
section
variable {X : Cx} {xs : XS} {wx : WX} {pos : Pos}
def ap1 (g : U → Option U) (f : DE) : DE := fun env st => (f env st).bind fun u st1 => Rs.of (g u) st1
def back1 : U → Option U
  | .lst us => some (.lst us.reverse)
  | .tup us => some (.tup us.reverse)
  | .scr ns => some (.scr ns.reverse)
  | _ => none
theorem Reps.reverse {K : PySem.W.Frag} {W : Addr → Prop} {io : List Addr} {H : Hp} : ∀ {us : List U} {vs : List V}, Reps K W io H us vs → Reps K W io H us.reverse vs.reverse
  | [], _, h => by rw [h.isNil]; exact .nil
  | u :: us, _, h => by
    obtain ⟨v, r, rfl, q, t⟩ := h.uncons
    rw [List.reverse_cons, List.reverse_cons]
    exact t.reverse.append (.cons q .nil)
end
@[simp] theorem ap1_ap (g : U → Option U) (f : DE) (env : Env) (st : Store) : ap1 g f env st = (f env st).bind fun u st1 => Rs.of (g u) st1 := (rfl)
@[simp] theorem itE_ap (g : U → Option (List U)) (f : DE) (env : Env) (st : Store) : itE g f env st = (f env st).bind fun u st1 => Rs.of (g u) st1 := (rfl)
end D
namespace D
open PySem L2
/-- a loop that looks at each thing and ends with r at the first that fails -/
theorem for_check {t : Tg} {b : DS} {st : Store} {r : U} (I : Nat → Env → Prop) (c : Nat → Bool) : ∀ (us : List U) (n : Nat) (env : Env), I n env →
    (∀ k u env, us[k]? = some u → I (n + k) env → (∀ j, j < k → c (n + j) = true) → ∃ l, t u = some l ∧ ((c (n + k) = true ∧ ∃ env', (b (setE env l) st = .nx env' st ∨ b (setE env l) st = .ct env' st) ∧ I (n + k + 1) env') ∨ (c (n + k) = false ∧ b (setE env l) st = .rt r st))) →
    ((∀ k, k < us.length → c (n + k) = true) ∧ ∃ env', forL t b us env st = .nx env' st ∧ I (n + us.length) env') ∨ ((∃ k, k < us.length ∧ c (n + k) = false) ∧ forL t b us env st = .rt r st)
  | [], n, env, h, _ => .inl ⟨fun k hk => absurd hk (Nat.not_lt_zero _), env, rfl, h⟩
  | u :: us, n, env, h, step => by
    obtain ⟨l, h1, h2⟩ := step 0 u env rfl h (fun j hj => absurd hj (Nat.not_lt_zero _))
    rcases h2 with ⟨hc, env1, h2, h3⟩ | ⟨hc, h2⟩
    · have ih := for_check I c us (n + 1) env1 h3 fun k v e hk hi hj => by
        have q := step (k + 1) v e (by simpa using hk) (by rw [show n + (k + 1) = n + 1 + k by omega]; exact hi) (fun j hj' => by
          cases j with
          | zero => exact hc
          | succ j => rw [show n + (j + 1) = n + 1 + j by omega]; exact hj j (by omega))
        rw [show n + (k + 1) = n + 1 + k by omega] at q
        exact q
      have e : forL t b (u :: us) env st = forL t b us env1 st := by
        rw [for_cons, h1]
        rcases h2 with h2 | h2 <;> simp only [h2]
      rcases ih with ⟨i1, env2, i2, i3⟩ | ⟨⟨k, i1, i2⟩, i3⟩
      · refine .inl ⟨fun k hk => ?_, env2, by rw [e]; exact i2, by rw [List.length_cons, show n + (us.length + 1) = n + 1 + us.length by omega]; exact i3⟩
        cases k with
        | zero => exact hc
        | succ k => rw [show n + (k + 1) = n + 1 + k by omega]; exact i1 k (by simpa using hk)
      · exact .inr ⟨⟨k + 1, by simpa using i1, by rw [show n + (k + 1) = n + 1 + k by omega]; exact i2⟩, by rw [e]; exact i3⟩
    · refine .inr ⟨⟨0, Nat.zero_lt_succ _, hc⟩, ?_⟩
      rw [for_cons, h1]
      simp only [h2]
theorem for_check0 {t : Tg} {b : DS} {st : Store} {r : U} (I : Nat → Env → Prop) (c : Nat → Bool) (us : List U) (env : Env) (h0 : I 0 env)
    (step : ∀ k u env, us[k]? = some u → I k env → (∀ j, j < k → c j = true) → ∃ l, t u = some l ∧ ((c k = true ∧ ∃ env', (b (setE env l) st = .nx env' st ∨ b (setE env l) st = .ct env' st) ∧ I (k + 1) env') ∨ (c k = false ∧ b (setE env l) st = .rt r st))) :
    ((List.range us.length).all c = true ∧ ∃ env', forL t b us env st = .nx env' st ∧ I us.length env') ∨ ((List.range us.length).all c = false ∧ forL t b us env st = .rt r st) := by
  have q := for_check (r := r) I c us 0 env h0 (fun k u e hk hi hj => by
    have := step k u e hk (by simpa using hi) (fun j hj' => by simpa using hj j hj')
    simpa using this)
  rcases q with ⟨h1, h2⟩ | ⟨⟨k, h1, h2⟩, h3⟩
  · refine .inl ⟨?_, by simpa using h2⟩
    rw [List.all_eq_true]
    intro k hk
    simpa using h1 k (List.mem_range.mp hk)
  · refine .inr ⟨?_, h3⟩
    rw [List.all_eq_false]
    exact ⟨k, List.mem_range.mpr h1, by simpa using h2⟩
@[simp] theorem tgT2_ap (i j : Nat) (a b : U) : tgT [i, j] (.tup [a, b]) = some [(i, a), (j, b)] := by
  unfold tgT
  rfl
@[simp] theorem tgT3_ap (i j k : Nat) (a b c : U) : tgT [i, j, k] (.tup [a, b, c]) = some [(i, a), (j, b), (k, c)] := by
  unfold tgT
  rfl
end D
namespace C
open PySem L2 D
def letters : List Nat := (Str.ofString "abcdefghijklmnopqrstuvwxyz").cps.toList
def isWordS (x : Str) : Bool := decide (1 ≤ x.length) && decide (x.length ≤ 8) && x.cps.toList.all (fun c => decide (c ∈ letters))
def valid (x : Str) : Bool := x.cps.all (· < 0x110000)
/-- a thing of which the type is known, a text no too long one -/
def tame : U → Bool
  | .str x => decide (x.length ≤ 16777216) && valid x
  | u => (tyU u).isSome
def wordU : U → Bool
  | .str x => isWordS x
  | _ => false
theorem wordU_str {u : U} (h : wordU u = true) : ∃ x, u = .str x ∧ isWordS x = true := by
  cases u <;> first | exact ⟨_, rfl, h⟩ | cases h
def b_is_word : DS := (sSeq (sIf (orT (notT (tst (appN isiN (acons (var 0) (acons (cst (.ty "str")) anil))))) (notT (tst (chain le2 le2 (cst (.int 1)) (appN lenN (acons (var 0) anil)) (cst (.int 8)))))) (sSeq (sRet (cst (.bl false))) sNil) sNil) (sSeq (sRet (appN allN (acons (newL (compD (itemsD (var 0)) [1] (tgN 1) yesT (bin in2 (var 1) (cst (.str (Str.ofString "abcdefghijklmnopqrstuvwxyz")))))) anil))) sNil))
def f_is_word : List U → Store → Rs U := runB 2 1 b_is_word
theorem is_word_str (x : Str) (hx : x.length ≤ 16777216) (st : Store) : f_is_word [.str x] st = .ok (.bl (isWordS x)) st := by
  unfold f_is_word b_is_word isWordS
  by_cases h1 : 1 ≤ x.length
  · by_cases h8 : x.length ≤ 8
    · have i1 : (1 : Int) ≤ x.length := by omega
      have i8 : (x.length : Int) ≤ 8 := by omega
      have hc : compL (tgN 1) yesT (D.bin in2 (var 1) (cst (U.str (Str.ofString "abcdefghijklmnopqrstuvwxyz")))) (x.cps.toList.map fun c => U.str ⟨#[c]⟩) [.val (.str x), .un] st = .ok (x.cps.toList.map fun c => U.bl (decide (c ∈ letters))) st :=
        comp_allM _ fun c _ => ⟨_, rfl, by simp [in2, letters]⟩
      have hb : boolsU (x.cps.toList.map fun c => U.bl (decide (c ∈ letters))) = some (x.cps.toList.map fun c => decide (c ∈ letters)) := by
        have := bools_map (x.cps.toList.map fun c => decide (c ∈ letters))
        rw [List.map_map] at this
        exact this
      have hs : x.cps.size ≤ 16777216 := hx
      simp [isiN, tyU, tyNames, isB, lenN, hx, le2, i1, i8, h1, h8, items, wipeE, hs, hc, allN, hb]
    · have i1 : (1 : Int) ≤ x.length := by omega
      have i8 : ¬ (x.length : Int) ≤ 8 := by omega
      simp [isiN, tyU, tyNames, isB, lenN, hx, le2, i1, i8, h1, h8]
  · have i1 : ¬ (1 : Int) ≤ x.length := by omega
    simp [isiN, tyU, tyNames, isB, lenN, hx, le2, i1, h1]
theorem is_word_no {u : U} {t : String} (ht : tyU u = some t) (hs : t ≠ "str") (st : Store) : f_is_word [u] st = .ok (.bl false) st := by
  unfold f_is_word b_is_word
  simp [isiN, ht, tyNames, isB, hs]
theorem tame_str {x : Str} (h : tame (.str x) = true) : x.length ≤ 16777216 ∧ valid x = true := by
  unfold tame at h
  rw [Bool.and_eq_true, decide_eq_true_eq] at h
  exact h
theorem is_word_any {u : U} (h : tame u = true) (st : Store) : f_is_word [u] st = .ok (.bl (wordU u)) st := by
  cases u with
  | str x => exact is_word_str x (tame_str h).1 st
  | non => exact is_word_no rfl (by decide) st
  | bl b => exact is_word_no rfl (by decide) st
  | int i => exact is_word_no rfl (by decide) st
  | tup us => exact is_word_no rfl (by decide) st
  | lst us => exact is_word_no rfl (by decide) st
  | dct ks us => exact is_word_no rfl (by decide) st
  | scr us => exact is_word_no rfl (by decide) st
  | ref n => cases h
  | ty n => cases h
def ltU : U → U → Bool
  | .str x, .str y => ltC x y
  | _, _ => false
def leafAt (us : List U) (k : Nat) : Bool := wordU (us.getD k .non) && (decide (k = 0) || ltU (us.getD (k - 1) .non) (us.getD k .non))
def areL : U → Bool
  | .tup us => decide (us.length ≤ 8) && (List.range us.length).all (leafAt us)
  | _ => false
def b_are_leaves : DS := (sSeq (sIf (orT (notT (tst (appN isiN (acons (var 0) (acons (cst (.ty "tuple")) anil))))) (tst (bin gt2 (appN lenN (acons (var 0) anil)) (cst (.int 8))))) (sSeq (sRet (cst (.bl false))) sNil) sNil) (sSeq (sFor (itA enumerateN (acons (var 0) anil)) (tgT [1, 2]) (sSeq (sIf (orT (notT (tst (appU f_is_word (acons (var 2) anil)))) (andT (tst (bin gt2 (var 1) (cst (.int 0)))) (tst (bin le2 (var 2) (bin ix2 (var 0) (bin sub2 (var 1) (cst (.int 1)))))))) (sSeq (sRet (cst (.bl false))) sNil) sNil) sNil)) (sSeq (sRet (cst (.bl true))) sNil)))
def b_leavesTurn : DS := (sSeq (sIf (orT (notT (tst (appU f_is_word (acons (var 2) anil)))) (andT (tst (bin gt2 (var 1) (cst (.int 0)))) (tst (bin le2 (var 2) (bin ix2 (var 0) (bin sub2 (var 1) (cst (.int 1)))))))) (sSeq (sRet (cst (.bl false))) sNil) sNil) sNil)
def f_are_leaves : List U → Store → Rs U := runB 3 1 b_are_leaves
theorem getD_of {us : List U} {k : Nat} {u : U} (h : us[k]? = some u) : us.getD k .non = u := by
  rw [List.getD_eq_getElem?_getD, h]; rfl
theorem leaf_str {us : List U} {k : Nat} (h : leafAt us k = true) : ∃ x, us.getD k .non = .str x := by
  unfold leafAt at h
  rw [Bool.and_eq_true] at h
  obtain ⟨x, e, _⟩ := wordU_str h.1
  exact ⟨x, e⟩
theorem ix_tup {us : List U} {k : Nat} {u : U} (h : us[k]? = some u) : ix2 (.tup us) (.int (k : Int)) = some u := atI_at h
set_option maxHeartbeats 2000000 in
theorem leaves_turn (us : List U) (k : Nat) (u : U) (s1 s2 : Sl) (st : Store) (hk : us[k]? = some u) (ht : tame u = true) (hj : ∀ j, j < k → leafAt us j = true) :
    b_leavesTurn [.val (.tup us), .val (.int (k : Int)), .val u] st = if leafAt us k = true then .nx [.val (.tup us), .val (.int (k : Int)), .val u] st else .rt (.bl false) st := by
  have e1 := is_word_any ht st
  have ed := getD_of hk
  unfold b_leavesTurn leafAt
  rw [ed]
  cases hw : wordU u with
  | false => simp [e1, hw]
  | true =>
    obtain ⟨x, rfl, _⟩ := wordU_str hw
    cases k with
    | zero => simp [e1, hw, gt2]
    | succ k =>
      obtain ⟨y, ey⟩ := leaf_str (hj k (Nat.lt_succ_self _))
      have hl : k < us.length := by have := (List.getElem?_eq_some_iff.mp hk).1; omega
      have ek : us[k]? = some (.str y) := by
        rw [List.getElem?_eq_getElem hl]
        rw [List.getD_eq_getElem?_getD, List.getElem?_eq_getElem hl] at ey
        exact congrArg some ey
      have ix := ix_tup ek
      have g1 : (0 : Int) < (k : Int) + 1 := by omega
      have g2 : (k : Int) + 1 - 1 = k := by omega
      cases hlt : ltC y x with
      | true => simp [e1, hw, gt2, sub2, g1, g2, ix, le2, ltU, ey, hlt, -List.getD_eq_getElem?_getD]
      | false => simp [e1, hw, gt2, sub2, g1, g2, ix, le2, ltU, ey, hlt, -List.getD_eq_getElem?_getD]
theorem num_get (us : List U) (k : Nat) (u : U) (h : (numU us)[k]? = some u) : ∃ v, us[k]? = some v ∧ u = .tup [.int (k : Int), v] := by
  unfold numU at h
  rw [List.getElem?_mapIdx, Option.map_eq_some_iff] at h
  obtain ⟨v, h1, h2⟩ := h
  exact ⟨v, h1, h2.symm⟩
theorem num_len (us : List U) : (numU us).length = us.length := by unfold numU; exact List.length_mapIdx
theorem are_leaves_tup (us : List U) (h : us.all tame = true) (st : Store) : f_are_leaves [.tup us] st = .ok (.bl (areL (.tup us))) st := by
  have e2 : b_are_leaves = (sSeq (sIf (orT (notT (tst (appN isiN (acons (var 0) (acons (cst (.ty "tuple")) anil))))) (tst (bin gt2 (appN lenN (acons (var 0) anil)) (cst (.int 8))))) (sSeq (sRet (cst (.bl false))) sNil) sNil) (sSeq (sFor (itA enumerateN (acons (var 0) anil)) (tgT [1, 2]) b_leavesTurn) (sSeq (sRet (cst (.bl true))) sNil))) := rfl
  unfold f_are_leaves areL
  rw [e2]
  by_cases h8 : us.length ≤ 8
  · have i8 : ¬ (8 : Int) < us.length := by omega
    have q := for_check0 (t := tgT [1, 2]) (b := b_leavesTurn) (st := st) (r := .bl false) (fun _ env => ∃ s1 s2, env = [.val (.tup us), s1, s2]) (leafAt us) (numU us) [.val (.tup us), .un, .un] ⟨_, _, rfl⟩ (fun k u env hk hI hj => by
      obtain ⟨s1, s2, rfl⟩ := hI
      obtain ⟨v, hv, rfl⟩ := num_get us k u hk
      rw [List.all_eq_true] at h
      have e := leaves_turn us k v s1 s2 st hv (h v (List.mem_of_getElem? hv)) hj
      refine ⟨_, tgT2_ap _ _ _ _, ?_⟩
      cases hc : leafAt us k with
      | true => rw [hc, if_pos rfl] at e; exact .inl ⟨rfl, _, .inl e, _, _, rfl⟩
      | false => rw [hc, if_neg Bool.false_ne_true] at e; exact .inr ⟨rfl, e⟩)
    rw [num_len] at q
    rcases q with ⟨q1, env', q2, s1, s2, rfl⟩ | ⟨q1, q2⟩
    · simp [isiN, tyU, tyNames, isB, lenN, gt2, i8, enumerateN, q2, h8, q1, -List.all_eq_true]
    · simp [isiN, tyU, tyNames, isB, lenN, gt2, i8, enumerateN, q2, h8, q1, -List.all_eq_true, -List.all_eq_false]
  · have i8 : (8 : Int) < us.length := by omega
    simp [isiN, tyU, tyNames, isB, lenN, gt2, i8, h8]
theorem are_leaves_no {u : U} {t : String} (ht : tyU u = some t) (hs : t ≠ "tuple") (st : Store) : f_are_leaves [u] st = .ok (.bl (areL u)) st := by
  have e : areL u = false := by
    cases u with
    | tup us => cases ht; exact absurd rfl hs
    | _ => rfl
  rw [e]
  unfold f_are_leaves b_are_leaves
  simp [isiN, ht, tyNames, isB, hs]
end C
namespace D
open PySem L2 PySem.Spec PyProof.Rows
abbrev SKd (P : Program) (w : World) : PySem.KeyKind P w Str := PySem.strKind P w
def GoodT (P : Program) (w : World) (e : Int × Value) : Prop := ∃ x tk, e.2 = Value.str x tk ∧ e.1 = (SKd P w).hash x
def txtOf (e : Int × Value) : Str := match e.2 with
  | .str x _ => x
  | _ => Str.empty
/-- a set of just these texts lies at a -/
def SetS (P : Program) (w : World) (h : Heap) (a : Addr) (L : List Str) : Prop :=
  ∃ o es ep t, h.get? a = some o ∧ o.ExactSet ∧ o.data = .set es ep t ∧ (∀ e ∈ es.toList, GoodT P w e) ∧ (es.toList.map txtOf).Perm L ∧ L.Nodup ∧ es.size < scanBound ∧ t.fits es.size = true ∧ Ris t.place.toList ∧
    (w.params.followText "set-order" = true ∨ t.led = true)
section
variable {P : Program} {w : World} {h h' : Heap} {a : Addr} {L : List Str}
theorem SetS.at (R : SetS P w h a L) (k : ∀ o, h.get? a = some o → h'.get? a = some o) : SetS P w h' a L := by
  obtain ⟨o, es, ep, t, ho, r⟩ := R
  exact ⟨o, es, ep, t, k o ho, r⟩
theorem goodT_elems {l : List (Int × Value)} (g : ∀ e ∈ l, GoodT P w e) : ElemsOf (SKd P w) l := fun e he => by
  obtain ⟨x, tk, e1, e2⟩ := g e he
  exact ⟨⟨x, by rw [e1]; exact strKind_is P w x tk, e2⟩, by rw [e1] <;> rfl⟩
theorem goodT_is {e : Int × Value} (g : GoodT P w e) (x : Str) : (SKd P w).is x e.2 = true ↔ txtOf e = x := by
  obtain ⟨y, tk, e1, _⟩ := g
  unfold txtOf
  rw [e1]
  have q := KeyKind.is_eq_decide (knd := SKd P w) (strKind_is P w y tk) x
  rw [q, decide_eq_true_eq]
  exact eq_comm
end
section
variable {P : Program} {w : World} {A : Around} {E : Value → Shared → Prop} {s : Shared} {a : Addr} {L : List Str}
theorem stored {h : Heap} {o : Obj} {es es2 : Array (Int × Value)} {ep : Nat} {t t2 : SetTable} (ho : h.get? a = some o) (hd : o.data = .set es ep t) : (h.update a (Obj.putSet es2 t2)).get? a = some { o with data := .set es2 (ep + 1) t2 } := by
  have q := Heap.get?_update_self (Obj.putSet es2 t2) ho (by rw [putSet_of es2 t2 hd]; rfl)
  rw [putSet_of es2 t2 hd] at q
  exact q
theorem addS_tail {g : Bool → Sem Unit} (hg : ∀ (b : Bool) (s1 : Shared) (Q2 : Unit → Shared → Prop), Q2 () s1 → wpAny (model P w) A (g b) Q2 E s1)
    {o : Obj} {es : Array (Int × Value)} {ep : Nat} {t : SetTable} (ho : s.heap.get? a = some o) (hex : o.ExactSet) (hd : o.data = .set es ep t)
    {es2 : Array (Int × Value)} {t2 : SetTable} {L2 : List Str} (g2 : ∀ e ∈ es2.toList, GoodT P w e) (pm2 : (es2.toList.map txtOf).Perm L2) (nd2 : L2.Nodup)
    (hb2 : es2.size < scanBound) (hf2 : t2.fits es2.size = true) (hr : Ris t2.place.toList) (hl : w.params.followText "set-order" = true ∨ t2.led = true) {dm : Bool} {R : Option Bool → Shared → Prop}
    (hR : ∀ h', Heap.SameBut a s.heap h' → SetS P w h' a L2 → R (some true) { s with heap := h' }) :
    wpAny (model P w) A (do
        storeSet a es2 t2
        if (!dm && t2.tooFull) = true then do
            g (relayAll t2 es2 (SetTable.grown es2.size)).2.2
            storeSet a (relayAll t2 es2 (SetTable.grown es2.size)).1 (relayAll t2 es2 (SetTable.grown es2.size)).2.1
            pure (some true)
          else pure (some true)) R E s := by
  refine wpAny_bind (wpAny_storeSet_of ho hd ?_ (fits_of_scanBound hb2))
  have o1 := stored (es2 := es2) (t2 := t2) ho hd
  have sb := Heap.SameBut.update s.heap a (Obj.putSet es2 t2)
  split
  · have p1 := relayAll_perm t2 es2 (SetTable.grown es2.size)
    have p2 := relayAll_fits t2 es2 (SetTable.grown es2.size)
    have p3 := relayAll_ris t2 es2 (SetTable.grown es2.size)
    have p4 := relayAll_led t2 es2 (SetTable.grown es2.size)
    generalize relayAll t2 es2 (SetTable.grown es2.size) = Z at p1 p2 p3 p4 ⊢
    obtain ⟨es3, t3, gv⟩ := Z
    dsimp only at p1 p2 p3 p4 ⊢
    have hz : es3.size = es2.size := by rw [← Array.length_toList, p1.length_eq, Array.length_toList]
    have hb3 : es3.size < scanBound := by rw [hz]; exact hb2
    refine wpAny_bind (hg _ _ _ ?_)
    refine wpAny_bind (wpAny_storeSet_of o1 rfl ?_ (fits_of_scanBound hb3))
    refine wpAny_pure (hR _ (sb.trans (Heap.SameBut.update _ a _)) ?_)
    exact ⟨_, es3, _, t3, stored (es2 := es3) (t2 := t3) o1 rfl, hex, rfl, fun e he => g2 e (p1.mem_iff.mp he), (p1.map txtOf).trans pm2, nd2, hb3, p2, p3, hl.imp id fun z => by rw [p4]; exact z⟩
  · exact wpAny_pure (hR _ sb ⟨_, es2, _, t2, o1, hex, rfl, g2, pm2, nd2, hb2, hf2, hr, hl⟩)
/-- what is there when x was added -/
def plusS (L : List Str) (x : Str) : List Str := if x ∈ L then L else x :: L
theorem addS_hashed {x : Str} {tk : Tok} {Q : Bool → Shared → Prop} (R : SetS P w s.heap a L) (room : L.length + 1 < scanBound) (hQ : ∀ h' b, Heap.SameBut a s.heap h' → SetS P w h' a (plusS L x) → Q b { s with heap := h' }) :
    wpAny (model P w) A (setAddHashed a (.str x tk) ((SKd P w).hash x)) Q E s := by
  obtain ⟨o, es, ep, t, ho, hex, hd, g, pm, nd, hb, hf, hr, hl⟩ := R
  have isx : (SKd P w).is x (.str x tk) = true := strKind_is P w x tk
  have scx : (Value.str x tk).scannable = true := rfl
  have els : ElemsOf (SKd P w) es.toList := goodT_elems g
  have hlen : es.size = L.length := by rw [← pm.length_eq, List.length_map, Array.length_toList]
  unfold setAddHashed setAddHashedIn
  refine wpAny_holding (wpAny_bind (wpAny_setState_of ho hd hf ?_))
  dsimp only
  rw [byScan_of scx hb els]
  simp only [↓reduceIte]
  unfold setAddByScan
  refine wpAny_bind ?_
  refine wpAny_bind (wpAny_rule ?_)
  refine wpAny_bind (wpAny_setScan_of isx ho hd hf els ?_)
  cases hfi : List.findIdx? (fun e => (SKd P w).is x e.2) es.toList with
  | some j =>
    dsimp only
    obtain ⟨hj, pj, _⟩ := List.findIdx?_eq_some_iff_getElem.mp hfi
    have hx : x ∈ L := pm.mem_iff.mp (List.mem_map.mpr ⟨es.toList[j], List.getElem_mem hj, (goodT_is (g _ (List.getElem_mem hj)) x).mp pj⟩)
    refine wpAny_pure (wpAny_pure ?_)
    refine hQ s.heap _ (Heap.SameBut.refl a s.heap) ?_
    unfold plusS
    rw [if_pos hx]
    exact ⟨o, es, ep, t, ho, hex, hd, g, pm, nd, hb, hf, hr, hl⟩
  | none =>
    dsimp only
    have hx : x ∉ L := fun z => by
      obtain ⟨e, he, q⟩ := List.mem_map.mp (pm.mem_iff.mpr z)
      have c := List.findIdx?_eq_none_iff.mp hfi e he
      rw [(goodT_is (g e he) x).mpr q] at c
      cases c
    have gw : ∀ (b : Bool) {s1 : Shared} {Q2 : Unit → Shared → Prop}, Q2 () s1 → wpAny (model P w) A (match b with | true => rule "set.scan.the-table-gave-way" | false => pure ()) Q2 E s1 := fun b s1 Q2 q => by
      cases b <;> first | exact wpAny_pure q | exact wpAny_rule q
    have p1 := layNew_perm t es ((SKd P w).hash x) (.str x tk)
    have p2 := layNew_fits t es ((SKd P w).hash x) (.str x tk)
    have p3 := layNew_ris t es ((SKd P w).hash x) (.str x tk) hr
    have p4 := layNew_led t es ((SKd P w).hash x) (.str x tk)
    generalize layNew t es ((SKd P w).hash x) (.str x tk) = Z at p1 p2 p3 p4 ⊢
    obtain ⟨es2, t2, dm, gv⟩ := Z
    dsimp only at p1 p2 p3 p4 ⊢
    rw [Array.toList_push] at p1
    have pc : es2.toList.Perm (((SKd P w).hash x, Value.str x tk) :: es.toList) := p1.trans (List.perm_append_singleton _ _)
    have pk : (es2.toList.map txtOf).Perm (plusS L x) := by
      unfold plusS
      rw [if_neg hx]
      exact (pc.map txtOf).trans (List.Perm.cons x pm)
    have nd2 : (plusS L x).Nodup := by
      unfold plusS
      rw [if_neg hx]
      exact List.nodup_cons.mpr ⟨hx, nd⟩
    have g2 : ∀ e ∈ es2.toList, GoodT P w e := fun e he => by
      rcases List.mem_cons.mp (pc.mem_iff.mp he) with z | z
      · rw [z]; exact ⟨x, tk, rfl, rfl⟩
      · exact g e z
    have hz : es2.size = L.length + 1 := by rw [← Array.length_toList, pc.length_eq, List.length_cons, Array.length_toList, hlen]
    have hb2 : es2.size < scanBound := by rw [hz]; exact room
    have hled : w.params.followText "set-order" = true ∨ t2.led = true := hl.imp id fun z => by rw [p4]; exact z
    refine wpAny_bind (gw _ ?_)
    split
    · refine wpAny_bind ?_
      rw [hashByValue_scannable 8 scx]
      refine wpAny_pure ?_
      refine addS_tail ?_ ho hex hd g2 pk nd2 hb2 ?_ ?_ ?_ ?_
      · intro b s1 Q2 q; cases b <;> first | exact wpAny_pure q | exact wpAny_rule q
      · first | (split <;> first | exact p2 | exact SetTable.fits_plain_off p2) | exact p2
      · first | (split <;> exact p3) | exact p3
      · first | (split <;> exact hled) | exact hled
      · intro h' sb r; dsimp only; exact wpAny_pure (hQ h' _ sb r)
    · refine wpAny_bind (wpAny_pure ?_)
      simp only [↓reduceIte]
      refine addS_tail ?_ ho hex hd g2 pk nd2 hb2 p2 p3 hled ?_
      · intro b s1 Q2 q; cases b <;> first | exact wpAny_pure q | exact wpAny_rule q
      · intro h' sb r; dsimp only; exact wpAny_pure (hQ h' _ sb r)
end
end D
namespace D
open PySem L2 PySem.Spec PyProof.Rows
theorem strs_get : ∀ {us : List Value} {ys : List Str}, StrsAre us ys → ∀ (i : Nat) (v : Value), us[i]? = some v → ∃ x t, ys[i]? = some x ∧ v = .str x t
  | _, _, .nil, i, v, h => by simp at h
  | _, _, .cons n t hr, 0, v, h => by simp at h; exact ⟨n, t, rfl, h.symm⟩
  | _, _, .cons n t hr, i + 1, v, h => by
    rw [List.getElem?_cons_succ] at h
    rw [List.getElem?_cons_succ]
    exact strs_get hr i v h
abbrev nset (w : World) : Obj := { cls := .type "set", dict := none, data := .set #[] 0 (.fresh 0 0 (!w.params.followText "set-order")) }
theorem setS_fresh {P : Program} {w : World} {h : Heap} {a : Addr} (ho : h.get? a = some (nset w)) : SetS P w h a [] := by
  refine ⟨_, #[], 0, _, ho, ⟨rfl, rfl, rfl⟩, rfl, fun e he => by simp at he, by simp, List.nodup_nil, by unfold scanBound; decide, rfl, List.Pairwise.nil, ?_⟩
  show _ ∨ (!w.params.followText "set-order") = true
  cases w.params.followText "set-order"
  · exact .inr rfl
  · exact .inl rfl
theorem plus_mem (L : List Str) (x y : Str) : y ∈ plusS L x ↔ y ∈ L ∨ y = x := by
  unfold plusS
  split
  · exact ⟨.inl, fun z => z.elim id fun e => e ▸ ‹_›⟩
  · rw [List.mem_cons]; exact Or.comm
theorem plus_len (L : List Str) (x : Str) : (plusS L x).length ≤ L.length + 1 := by
  unfold plusS
  split
  · omega
  · rw [List.length_cons]; exact Nat.le_refl _
section
variable {P : Program} {w : World} {A : Around} {R : Result → Shared → Prop} {I : Addr} {fp wr : List Addr} {G : Array GenState → Array GenState → Prop} {n : Nat} {Pv : Nat → Value → Prop} {St : Nat → Shared → Prop}
theorem set_loop (W : WalksS P w A.in1 I fp wr G n Pv St) (S : Addr) (nf : S ∉ fp) (ys : List Str) (hn : ys.length = n) (hz : ys.length + 1 < scanBound) (vals : ∀ i v, Pv i v → ∃ x t, ys[i]? = some x ∧ v = .str x t) :
    ∀ (k i : Nat) (s : Shared) (L : List Str), n - i = k → i ≤ n → St i s → SetS P w s.heap S L → (∀ x, x ∈ L ↔ x ∈ ys.take i) → L.length ≤ i →
      (∀ s3 L3, Moved (S :: wr) G s s3 → SetS P w s3.heap S L3 → (∀ x, x ∈ L3 ↔ x ∈ ys) → R (.ok (.ret .none)) s3) → codeAny (model P w) A (.builtin "set.update.loop" ⟨[.ref S, .ref I], []⟩) R s := by
  have nw : S ∉ wr := fun z => nf (W.sub _ z)
  have more : ∀ b ∈ wr, b ∈ S :: wr := fun b hb => List.mem_cons_of_mem _ hb
  intro k
  induction k with
  | zero =>
    intro i s L ek hi hst hS hL hlen hR
    have ein : i = n := by omega
    subst ein
    refine codeAny_builtin PyProof.Rows.F.entry_set_update_loop ?_
    rw [Around.under_plainId PyProof.Rows.F.plain_set_update_loop _]
    show wpAny _ A.in1 (pyNext (.ref I) >>= _) _ _ s
    refine wpAny_bind (W.done s _ _ hst fun s3 hm => ?_)
    show wpAny _ A.in1 (ret Value.none) _ _ s3
    exact wpAny_pure (hR s3 L (hm.mono more) (hS.at fun o e => hm.heap S _ nw e) fun x => by rw [hL x, ← hn, List.take_length])
  | succ k ih =>
    intro i s L ek hi hst hS hL hlen hR
    have hlt : i < n := by omega
    refine codeAny_builtin PyProof.Rows.F.entry_set_update_loop ?_
    rw [Around.under_plainId PyProof.Rows.F.plain_set_update_loop _]
    show wpAny _ A.in1 (pyNext (.ref I) >>= _) _ _ s
    refine wpAny_bind (W.item i s _ _ hlt hst fun v s3 hP hst3 hm => ?_)
    obtain ⟨x, t, hx, rfl⟩ := vals i v hP
    have hS3 : SetS P w s3.heap S L := hS.at fun o e => hm.heap S _ nw e
    show wpAny _ A.in1 (holding [Value.str x t] (setAdd S (.str x t)) >>= _) _ _ s3
    refine wpAny_bind (wpAny_holding ?_)
    unfold setAdd
    refine wpAny_holding ?_
    refine wpAny_bind ((SKd P w).pyHash (k := x) (strKind_is _ _ _ _) ?_)
    refine addS_hashed (s := { s3 with toks := s3.toks + 1 }) hS3 (by omega) fun h' b0 sb hS4 => ?_
    have hL4 : ∀ y, y ∈ plusS L x ↔ y ∈ ys.take (i + 1) := fun y => by
      rw [plus_mem, hL y, List.take_add_one, hx, List.mem_append]
      simp [eq_comm]
    have hl4 : (plusS L x).length ≤ i + 1 := Nat.le_trans (plus_len L x) (Nat.succ_le_succ hlen)
    refine wpAny_pure ⟨plainId_quiet PyProof.Rows.F.plain_set_update_loop _, ih (i + 1) _ _ (by omega) hlt (W.frame _ s3 _ _ hst3 (Nat.le_succ _) fun b hb o e => ?_) hS4 hL4 hl4 fun s5 L5 hm5 hS5 hL5 => ?_⟩
    · rw [sb.2 b (fun z : b = S => nf (by rw [← z]; exact hb))]; exact e
    · refine hR s5 L5 (Moved.trans W.gtrans ((hm.mono more).then_heap (Nat.le_succ _) fun b o hb e => ?_) hm5) hS5 hL5
      rw [sb.2 b (fun z : b = S => hb (by rw [z]; exact List.mem_cons_self))]; exact e
end
section
variable {P : Program} {w : World} {A : Around} {E : Value → Shared → Prop} {s : Shared}
set_option maxHeartbeats 3200000 in
theorem set_of_list {l : Addr} {its : Array Value} {ys : List Str} {Q : Value → Shared → Prop} (hA : A.handled = none) (hl : s.heap.IsList l its) (hi : StrsAre its.toList ys) (hz : ys.length + 1 < scanBound)
    (fin : ∀ (h' : Heap) (tk : Nat) (L : List Str), SetS P w h' s.heap.objs.size L → (∀ x, x ∈ L ↔ x ∈ ys) → (∀ b o, b < s.heap.objs.size → s.heap.get? b = some o → h'.get? b = some o) → Q (.ref s.heap.objs.size) { s with heap := h', toks := tk }) :
    wpAny (model P w) A (call (.type "set") [.ref l]) Q E s := by
  obtain ⟨mc, mt, hmro⟩ := PySem.F.called_set.mro
  have isMade := PySem.F.called_set.made
  have isSub := PySem.F.called_set.sub
  refine wpAny_call (codeAny_of_tree ?_)
  show wpAny _ _ (callAny (.type "set") _) _ _ _
  refine wpAny_pure ⟨Code.quiet_builtin _ (by decide +kernel), codeAny_builtin PySem.F.entry_type_call ?_⟩
  rw [Around.under_plain (weight_type_call_type "set" [.ref l] []) rfl]
  have noTy := PySem.F.called_set.notType
  have canC := PySem.F.called_set.canCreate
  have tcl := PySem.F.typeCall_set_1 (.ref l)
  repeat (any_goals (first | assumption | wp_step))
  refine codeAny_mono (code_set_led1 (.ref l) (E := E) (Q₁ := fun ob s1 => ob = .ref s.heap.objs.size ∧ s1 = { s with heap := s.heap.push (nset w) }) ⟨rfl, rfl⟩) fun r s1 hr => ?_
  cases r with
  | error e => exact hr
  | ok fl =>
    cases fl with
    | ret ob =>
      obtain ⟨rfl, rfl⟩ := hr
      have atS : (s.heap.push (nset w)).get? s.heap.objs.size = some (nset w) := Heap.get?_push_size _ rfl
      have isS : Shared.TypeIs { s with heap := s.heap.push (nset w) } (.ref s.heap.objs.size) "set" := ⟨_, atS, rfl⟩
      have iniL := PySem.F.called_set.init.lookup
      have iniB := PySem.F.called_set.init.bind (.ref s.heap.objs.size)
      repeat (any_goals (first | assumption | wp_step))
      refine codeAny_mono (codeAny_call_builtin (R := wants (fun r s2 => r = .none ∧ ∃ h' tk L, s2 = { s with heap := h', toks := tk } ∧ SetS P w h' s.heap.objs.size L ∧ (∀ x, x ∈ L ↔ x ∈ ys) ∧ (∀ b o, b < s.heap.objs.size → s.heap.get? b = some o → h'.get? b = some o)) E)
        PySem.F.called_set.init.plain PySem.F.entry_set_init (check_set_init_1 isS ?_)) fun r2 s2 hr2 => ?_
      · obtain ⟨⟨oc, od, oD, osl⟩, hol, hcl, ne, hdl⟩ := hl
        simp only at hcl hdl
        subst hcl; subst hdl
        have hol2 : (s.heap.push (nset w)).get? l = some { cls := .type "list", dict := od, data := .seq its ne, slots := osl } := Heap.get?_push_of_some _ hol
        have sub1 := PySem.F.sub_list_set
        have sub2 := PySem.F.sub_list_frozenset
        have noD : (Value.type "list" == Value.type "dict") = false := by decide
        have isL : (s.heap.push (nset w)).IsList l its := ⟨_, hol2, rfl, ne, rfl⟩
        unfold Builtin.«set.__init__» noKeywords Builtin.Frozenset.updateFrom
        generalize hp : pyIter = pI
        wp_walk
        subst hp
        refine wpAny_pyIter_list isL ?_
        refine wpAny_bind (wpAny_runValue ?_)
        have ll : l < s.heap.objs.size := Heap.lt_size hol
        have hA3 : A.in1.in1.in1.handled = none := by simp [hA]
        have zN : (s.heap.push (nset w)).objs.size = s.heap.objs.size + 1 := Heap.size_push ..
        have neI : l ≠ (s.heap.push (nset w)).objs.size := by rw [zN]; exact Nat.ne_of_lt (Nat.lt_succ_of_lt ll)
        have nf : s.heap.objs.size ∉ [(s.heap.push (nset w)).objs.size, l] := by
          rw [zN]; simp only [List.mem_cons, List.not_mem_nil, or_false, not_or]
          exact ⟨Nat.ne_of_lt (Nat.lt_succ_self _), Nat.ne_of_gt ll⟩
        have hn : ys.length = its.size := by rw [← StrsAre.len_eq hi, Array.length_toList]
        have vals : ∀ (i : Nat) (v : Value), its[i]? = some v → ∃ x t, ys[i]? = some x ∧ v = .str x t := fun i v hv => strs_get hi i v (by rw [Array.getElem?_toList]; exact hv)
        refine set_loop ((Walks.list hA3 _ l neI its).toS) s.heap.objs.size nf ys hn hz vals (its.size - 0) 0 _ [] (by omega) (Nat.zero_le _) ⟨⟨_, Heap.get?_push_size _ rfl, rfl, rfl⟩, (isL.push _)⟩ ?z0 (by simp) (by simp) ?zR
        case z0 => exact setS_fresh (Heap.get?_push_of_some _ atS)
        case zR =>
          intro s3 L hm hS3 hL
          obtain ⟨h3, g3, d3, tk3, os3⟩ := s3
          have eg : g3 = s.gens := hm.gens
          have ed : d3 = s.drawn := hm.drawn
          have eo : os3 = s.os := hm.os
          subst eg; subst ed; subst eo
          show wpAny _ _ _ _ _ _
          refine wpAny_pure ?_
          show wpAny _ _ (ret Value.none) _ _ _
          refine wpAny_pure ⟨rfl, h3, tk3, L, rfl, hS3, hL, fun b o hb e => ?_⟩
          refine hm.heap b o ?_ (Heap.get?_push_of_some _ (Heap.get?_push_of_some _ e))
          simp only [List.mem_cons, List.not_mem_nil, or_false, not_or]
          exact ⟨Nat.ne_of_lt hb, by rw [zN]; exact Nat.ne_of_lt (Nat.lt_succ_of_lt hb)⟩
      · cases r2 with
        | error e => exact hr2
        | ok fl2 =>
          cases fl2 with
          | ret r =>
            obtain ⟨rfl, h3, tk, L, rfl, hS3, hL, hk3⟩ := hr2
            repeat (any_goals (first | assumption | wp_step))
            exact fin _ _ _ hS3 hL hk3
          | _ => exact hr2.elim
    | _ => exact hr.elim
set_option maxHeartbeats 3200000 in
theorem set_of_tuple {l : Addr} {its : Array Value} {ys : List Str} {Q : Value → Shared → Prop} (hA : A.handled = none) (hl : s.heap.IsTuple l its) (hi : StrsAre its.toList ys) (hz : ys.length + 1 < scanBound)
    (fin : ∀ (h' : Heap) (tk : Nat) (L : List Str), SetS P w h' s.heap.objs.size L → (∀ x, x ∈ L ↔ x ∈ ys) → (∀ b o, b < s.heap.objs.size → s.heap.get? b = some o → h'.get? b = some o) → Q (.ref s.heap.objs.size) { s with heap := h', toks := tk }) :
    wpAny (model P w) A (call (.type "set") [.ref l]) Q E s := by
  obtain ⟨mc, mt, hmro⟩ := PySem.F.called_set.mro
  have isMade := PySem.F.called_set.made
  have isSub := PySem.F.called_set.sub
  refine wpAny_call (codeAny_of_tree ?_)
  show wpAny _ _ (callAny (.type "set") _) _ _ _
  refine wpAny_pure ⟨Code.quiet_builtin _ (by decide +kernel), codeAny_builtin PySem.F.entry_type_call ?_⟩
  rw [Around.under_plain (weight_type_call_type "set" [.ref l] []) rfl]
  have noTy := PySem.F.called_set.notType
  have canC := PySem.F.called_set.canCreate
  have tcl := PySem.F.typeCall_set_1 (.ref l)
  repeat (any_goals (first | assumption | wp_step))
  refine codeAny_mono (code_set_led1 (.ref l) (E := E) (Q₁ := fun ob s1 => ob = .ref s.heap.objs.size ∧ s1 = { s with heap := s.heap.push (nset w) }) ⟨rfl, rfl⟩) fun r s1 hr => ?_
  cases r with
  | error e => exact hr
  | ok fl =>
    cases fl with
    | ret ob =>
      obtain ⟨rfl, rfl⟩ := hr
      have atS : (s.heap.push (nset w)).get? s.heap.objs.size = some (nset w) := Heap.get?_push_size _ rfl
      have isS : Shared.TypeIs { s with heap := s.heap.push (nset w) } (.ref s.heap.objs.size) "set" := ⟨_, atS, rfl⟩
      have iniL := PySem.F.called_set.init.lookup
      have iniB := PySem.F.called_set.init.bind (.ref s.heap.objs.size)
      repeat (any_goals (first | assumption | wp_step))
      refine codeAny_mono (codeAny_call_builtin (R := wants (fun r s2 => r = .none ∧ ∃ h' tk L, s2 = { s with heap := h', toks := tk } ∧ SetS P w h' s.heap.objs.size L ∧ (∀ x, x ∈ L ↔ x ∈ ys) ∧ (∀ b o, b < s.heap.objs.size → s.heap.get? b = some o → h'.get? b = some o)) E)
        PySem.F.called_set.init.plain PySem.F.entry_set_init (check_set_init_1 isS ?_)) fun r2 s2 hr2 => ?_
      · obtain ⟨⟨oc, od, oD, osl⟩, hol, hcl, ne, hdl⟩ := hl
        simp only at hcl hdl
        subst hcl; subst hdl
        have hol2 : (s.heap.push (nset w)).get? l = some { cls := .type "tuple", dict := od, data := .seq its ne, slots := osl } := Heap.get?_push_of_some _ hol
        have sub1 := PySem.F.sub_tuple_set
        have sub2 := PySem.F.sub_tuple_frozenset
        have noD : (Value.type "tuple" == Value.type "dict") = false := by decide
        have isL : (s.heap.push (nset w)).IsTuple l its := ⟨_, hol2, rfl, ne, rfl⟩
        unfold Builtin.«set.__init__» noKeywords Builtin.Frozenset.updateFrom
        generalize hp : pyIter = pI
        wp_walk
        subst hp
        refine wpAny_pyIter_tuple isL ?_
        refine wpAny_bind (wpAny_runValue ?_)
        have ll : l < s.heap.objs.size := Heap.lt_size hol
        have hA3 : A.in1.in1.in1.handled = none := by simp [hA]
        have zN : (s.heap.push (nset w)).objs.size = s.heap.objs.size + 1 := Heap.size_push ..
        have neI : l ≠ (s.heap.push (nset w)).objs.size := by rw [zN]; exact Nat.ne_of_lt (Nat.lt_succ_of_lt ll)
        have nf : s.heap.objs.size ∉ [(s.heap.push (nset w)).objs.size, l] := by
          rw [zN]; simp only [List.mem_cons, List.not_mem_nil, or_false, not_or]
          exact ⟨Nat.ne_of_lt (Nat.lt_succ_self _), Nat.ne_of_gt ll⟩
        have hn : ys.length = its.size := by rw [← StrsAre.len_eq hi, Array.length_toList]
        have vals : ∀ (i : Nat) (v : Value), its[i]? = some v → ∃ x t, ys[i]? = some x ∧ v = .str x t := fun i v hv => strs_get hi i v (by rw [Array.getElem?_toList]; exact hv)
        refine set_loop ((Walks.tuple hA3 _ l neI its).toS) s.heap.objs.size nf ys hn hz vals (its.size - 0) 0 _ [] (by omega) (Nat.zero_le _) ⟨⟨_, Heap.get?_push_size _ rfl, rfl, rfl⟩, (isL.push _)⟩ ?z0 (by simp) (by simp) ?zR
        case z0 => exact setS_fresh (Heap.get?_push_of_some _ atS)
        case zR =>
          intro s3 L hm hS3 hL
          obtain ⟨h3, g3, d3, tk3, os3⟩ := s3
          have eg : g3 = s.gens := hm.gens
          have ed : d3 = s.drawn := hm.drawn
          have eo : os3 = s.os := hm.os
          subst eg; subst ed; subst eo
          show wpAny _ _ _ _ _ _
          refine wpAny_pure ?_
          show wpAny _ _ (ret Value.none) _ _ _
          refine wpAny_pure ⟨rfl, h3, tk3, L, rfl, hS3, hL, fun b o hb e => ?_⟩
          refine hm.heap b o ?_ (Heap.get?_push_of_some _ (Heap.get?_push_of_some _ e))
          simp only [List.mem_cons, List.not_mem_nil, or_false, not_or]
          exact ⟨Nat.ne_of_lt hb, by rw [zN]; exact Nat.ne_of_lt (Nat.lt_succ_of_lt hb)⟩
      · cases r2 with
        | error e => exact hr2
        | ok fl2 =>
          cases fl2 with
          | ret r =>
            obtain ⟨rfl, h3, tk, L, rfl, hS3, hL, hk3⟩ := hr2
            repeat (any_goals (first | assumption | wp_step))
            exact fin _ _ _ hS3 hL hk3
          | _ => exact hr2.elim
    | _ => exact hr.elim
end
end D
namespace D
open PySem L2 PySem.Spec PyProof.Rows
def SetSO (P : Program) (w : World) (a : Addr) (L : List Str) : HO := .ext fun h => SetS P w h a L
section
variable {X : Cx}
theorem setSO_new {P : Program} {w : World} {H : Hp} {h : Heap} {a : Addr} {L : List Str} (R : SetS P w h a L) : ObjOk P w H h a (SetSO P w a L) := by
  have ⟨o, _, _, _, ho, _⟩ := R
  exact ⟨R, ⟨o, ho⟩, fun h1 h2 q k => SetS.at q k⟩
theorem setSO_get {pins : List (Addr × Obj)} {sg : L2.St} {H : Hp} {s : Shared} {a : Addr} {L : List Str} (I : Inv X pins sg H s) (ha : H a = some (SetSO X.prog X.w a L)) : SetS X.prog X.w s.heap a L := (I.hok a _ ha).1
theorem strs_of : ∀ {ys : List Str} {us : List Value}, Vals (ys.map V.str) us → StrsAre us ys
  | [], _, .nil => .nil
  | y :: ys, _, .cons r rr => by
    obtain ⟨t, rfl⟩ := r
    exact .cons y t (strs_of rr)
def rSetS (K : PySem.W.Frag) (P : Program) (w : World) : List V → Hp → VK → Prop := fun vs H Q => ∃ (l : Addr) (ys : List Str), vs = [.ref l] ∧ (SqL K H l (ys.map V.str) ∨ SqT K H l (ys.map V.str)) ∧ ys.length + 1 < scanBound ∧
  ∀ p L, H p = none → L.Nodup → (∀ x, x ∈ L ↔ x ∈ ys) → Q (.ref p) (upd H p (SetSO P w p L))
theorem SetS.nodup {P : Program} {w : World} {h : Heap} {a : Addr} {L : List Str} (R : SetS P w h a L) : L.Nodup := by
  obtain ⟨_, _, _, _, _, _, _, _, _, nd, _⟩ := R
  exact nd
theorem cr_setS (hc : X.calm = true) : CallR X (.type "set") (rSetS X.K X.prog X.w) := by
  intro pins s sg H vs us Q I r h
  obtain ⟨l, ys, rfl, hq, hz, q⟩ := h
  rw [Vals.ref1 r]
  have fin : ∀ (h' : Heap) (tk : Nat) (L : List Str), SetS X.prog X.w h' s.heap.objs.size L → (∀ x, x ∈ L ↔ x ∈ ys) → (∀ b o, b < s.heap.objs.size → s.heap.get? b = some o → h'.get? b = some o) → EP X pins sg Q (.ref s.heap.objs.size) { s with heap := h', toks := tk } := fun h' tk L R hL hk =>
    ⟨.ref _, _, I.laid (t' := tk) (fun b u e => hk b u (Heap.lt_size e) e) (Nat.le_refl _) (setSO_new R), rfl, q _ L (I.hok.fresh (Nat.le_refl _)) R.nodup hL⟩
  rcases hq with hq | hq
  · obtain ⟨its, rv, p, _⟩ := I.list hq
    exact set_of_list (I.ok.hd hc) p.isList (strs_of rv) hz fin
  · obtain ⟨its, rv, p, _⟩ := I.tuple hq
    exact set_of_tuple (I.ok.hd hc) (show s.heap.IsTuple l its.toArray from p) (strs_of rv) hz fin
def rLenS (P : Program) (w : World) : List V → Hp → VK → Prop := fun vs H Q => ∃ (a : Addr) (L : List Str), vs = [.ref a] ∧ H a = some (SetSO P w a L) ∧ Q (.int L.length) H
theorem cr_lenS : CallR X (.builtin "len") (rLenS X.prog X.w) := by
  intro pins s sg H vs us Q I r h
  obtain ⟨a, L, rfl, ha, q⟩ := h
  rw [Vals.ref1 r]
  obtain ⟨o, es, ep, t, ho, hex, hd, g, pm, nd, hb, hf, _⟩ := setSO_get I ha
  have hl : es.size = L.length := by rw [← pm.length_eq, List.length_map, Array.length_toList]
  refine call_len_set ho hex hd hf (by unfold scanBound at hb; omega) ?_
  rw [hl]
  exact ⟨.int L.length, H, I.tok _, ⟨_, rfl⟩, q⟩
end
end D
namespace D
open PySem L2
theorem ltCps_eq : ∀ a b : List Nat, PySem.Spec.ltCps a b = decide (a < b)
  | [], [] => by simp [PySem.Spec.ltCps]
  | [], _ :: _ => by simp [PySem.Spec.ltCps]
  | _ :: _, [] => by simp [PySem.Spec.ltCps]
  | a :: r, b :: t => by
    unfold PySem.Spec.ltCps
    rw [ltCps_eq r t]
    simp only [List.cons_lt_cons_iff, Bool.decide_or, Bool.decide_and]
    rfl
def leS (x y : Str) : Prop := x.cps.toList ≤ y.cps.toList
theorem leS_iff (x y : Str) : leS x y ↔ ltC y x = false := by
  unfold leS ltC
  rw [decide_eq_false_iff_not, List.not_lt]
theorem leS_anti {x y : Str} (h1 : leS x y) (h2 : leS y x) : x = y := by
  have := List.le_antisymm h1 h2
  cases x with | mk a => cases y with | mk b =>
    congr 1
    exact Array.toList_inj.mp this
theorem leS_total (x y : Str) : leS x y ∨ leS y x := List.le_total _ _
theorem leS_trans {x y z : Str} (h1 : leS x y) (h2 : leS y z) : leS x z := List.le_trans h1 h2
def insS (x : Str) : List Str → List Str
  | [] => [x]
  | y :: r => if ltC y x then y :: insS x r else x :: y :: r
def sortS : List Str → List Str
  | [] => []
  | x :: r => insS x (sortS r)
def dedS : List Str → List Str
  | [] => []
  | x :: r => plusS (dedS r) x
theorem ins_perm (x : Str) : ∀ l, (insS x l).Perm (x :: l)
  | [] => .refl _
  | y :: r => by
    unfold insS
    split
    · exact ((ins_perm x r).cons y).trans (.swap x y r)
    · exact .refl _
theorem sort_perm : ∀ l, (sortS l).Perm l
  | [] => .refl _
  | x :: r => (ins_perm x _).trans ((sort_perm r).cons x)
theorem ins_sorted (x : Str) : ∀ l, l.Pairwise leS → (insS x l).Pairwise leS
  | [], _ => by unfold insS; exact List.pairwise_singleton _ _
  | y :: r, h => by
    obtain ⟨h1, h2⟩ := List.pairwise_cons.mp h
    unfold insS
    split
    · rename_i hlt
      refine List.pairwise_cons.mpr ⟨fun z hz => ?_, ins_sorted x r h2⟩
      rcases List.mem_cons.mp ((ins_perm x r).mem_iff.mp hz) with e | e
      · subst e
        rcases leS_total y z with q | q
        · exact q
        · rw [leS_iff, hlt] at q; cases q
      · exact h1 z e
    · rename_i hlt
      have hxy : leS x y := (leS_iff x y).mpr (by simpa using hlt)
      refine List.pairwise_cons.mpr ⟨fun z hz => ?_, h⟩
      rcases List.mem_cons.mp hz with e | e
      · subst e; exact hxy
      · exact leS_trans hxy (h1 z e)
theorem sort_sorted : ∀ l, (sortS l).Pairwise leS
  | [] => List.Pairwise.nil
  | x :: r => ins_sorted x _ (sort_sorted r)
theorem rising_pw : ∀ (l : List Str) (x : Str), PyProof.Rows.risingS x l = true → (x :: l).Pairwise leS
  | [], x, _ => List.pairwise_singleton _ _
  | y :: r, x, h => by
    unfold PyProof.Rows.risingS at h
    rw [Bool.and_eq_true, ltCps_eq] at h
    have ih := rising_pw r y h.2
    have hxy : leS x y := (leS_iff x y).mpr (by have := h.1; unfold ltC; simpa using this)
    refine List.pairwise_cons.mpr ⟨fun z hz => ?_, ih⟩
    rcases List.mem_cons.mp hz with e | e
    · subst e; exact hxy
    · exact leS_trans hxy ((List.pairwise_cons.mp ih).1 z e)
theorem sortedS_pw : ∀ (l : List Str), PyProof.Rows.sortedS l = true → l.Pairwise leS
  | [], _ => List.Pairwise.nil
  | x :: r, h => rising_pw r x h
theorem sort_unique {ys L : List Str} (h1 : PyProof.Rows.sortedS ys = true) (h2 : ys.Perm L) : ys = sortS L :=
  List.Perm.eq_of_pairwise (fun _ _ _ _ p q => leS_anti p q) (sortedS_pw ys h1) (sort_sorted L) (h2.trans (sort_perm L).symm)
theorem sort_congr {L L' : List Str} (h : L.Perm L') : sortS L = sortS L' :=
  List.Perm.eq_of_pairwise (fun _ _ _ _ p q => leS_anti p q) (sort_sorted L) (sort_sorted L') ((sort_perm L).trans (h.trans (sort_perm L').symm))
theorem ded_mem : ∀ (l : List Str) (x : Str), x ∈ dedS l ↔ x ∈ l
  | [], x => by simp [dedS]
  | y :: r, x => by
    unfold dedS
    rw [plus_mem, ded_mem r x, List.mem_cons]
    exact Or.comm
theorem ded_nodup : ∀ l : List Str, (dedS l).Nodup
  | [] => List.nodup_nil
  | y :: r => by
    unfold dedS plusS
    split
    · exact ded_nodup r
    · rename_i h
      exact List.nodup_cons.mpr ⟨h, ded_nodup r⟩
theorem ded_perm {L ys : List Str} (nd : L.Nodup) (h : ∀ x, x ∈ L ↔ x ∈ ys) : L.Perm (dedS ys) := (List.perm_ext_iff_of_nodup nd (ded_nodup ys)).mpr fun x => (h x).trans (ded_mem ys x).symm
def txts : U → Option (List Str)
  | .lst us => strsU us
  | .tup us => strsU us
  | _ => none
def sortSet1 (u : U) : Option (List U) := (txts u).bind fun ys => if ys.length + 1 < 4096 then some ((sortS (dedS ys)).map U.str) else none
def lenSet1 (u : U) : Option U := (txts u).bind fun ys => if ys.length + 1 < 4096 then some (.int (dedS ys).length) else none
section
variable {X : Cx} {xs : XS} {wx : WX} {pos : Pos}
theorem txts_rep {K : PySem.W.Frag} {W : Addr → Prop} {io : List Addr} {H : Hp} {u : U} {v : V} {ys : List Str} (r : Rep K W io H u v) (h : txts u = some ys) : ∃ l, v = .ref l ∧ (SqL K H l (ys.map V.str) ∨ SqT K H l (ys.map V.str)) := by
  unfold txts at h
  split at h
  · rename_i us
    rw [strs_eq h] at r
    obtain ⟨a, vs, rfl, l, rs⟩ := r.lst'
    rw [Reps.ofStrs rs] at l
    exact ⟨a, rfl, .inl l.sq⟩
  · rename_i us
    rw [strs_eq h] at r
    obtain ⟨a, vs, rfl, l, rs⟩ := r.tup'
    rw [Reps.ofStrs rs] at l
    exact ⟨a, rfl, .inr l.sq⟩
  · cases h
theorem d_lenSet {e : Expr} {p p2 pos2 : Pos} {f : DE} (hc : X.calm = true) (hg : Gl X "len") (hm : X.mg "len" = none) (hg2 : Gl X "set") (hm2 : X.mg "set" = none) (he : PE X e (tD X.K xs wx f)) (hs : starEach [e] X.env = (false, eval e X.env) :: starEach [] X.env := by rfl)
    (hs2 : starEach [.Call (.Name "set" p2) [e] [] pos2] X.env = (false, eval (.Call (.Name "set" p2) [e] [] pos2) X.env) :: starEach [] X.env := by rfl) :
    PE X (.Call (.Name "len" p) [.Call (.Name "set" p2) [e] [] pos2] [] pos) (tD X.K xs wx (ap1 lenSet1 f)) := by
  have hset := pe_callTy (pos := pos2) (p := p2) (cr_setS hc) hg2 hm2 bt_set (pa_cons he pa_nil hs) (by decide) (by decide) hs rfl
  refine pe_imp (pe_callB (pos := pos) (p := p) cr_lenS hg hm bt_len (pa_cons hset pa_nil hs2) (by decide) (by decide) hs2 rfl) fun sg H Q h => ?_
  obtain ⟨G, io, st, env, ok, er, w⟩ := h
  refine ⟨G, io, st, env, ok, er, w.bind.impR fun st1 io1 H1 u ok1 e1 w1 v rv => ?_⟩
  obtain ⟨r, hu, w2⟩ := w1.pure
  unfold lenSet1 at hu
  rw [Option.bind_eq_some_iff] at hu
  obtain ⟨ys, hy, hu⟩ := hu
  split at hu
  · rename_i hz
    cases hu
    obtain ⟨l, rfl, sq⟩ := txts_rep rv hy
    refine ⟨l, ys, rfl, sq, hz, fun q L hq nd hL => ⟨q, L, rfl, upd_same, ?_⟩⟩
    rw [(ded_perm nd hL).length_eq]
    exact w2.hereS ok1 (same_upd hq) _ (rInt _)
  · cases hu
end
end D
namespace D
open PySem L2
def sUnp (t : Tg) (f : DE) : DS := fun env st => (f env st).out env fun u st1 => match t u with
  | none => .bad
  | some l => .nx (setE env l) st1
section
variable {X : Cx} {xs : XS} {wx : WX} {pos : Pos}
theorem s_unp {tg e : Expr} {f : DE} {t : Tg} (he : PE X e (tD X.K xs wx f)) (hg : PG X tg (gD X.K t)) (hm : (assignEach [tg] X.env).map (·.2) = [assign tg X.env] := by rfl)
    (hs : swapsWithSole [tg] e pos.line X.env = Pure.pure false := by rfl) (hw : swappedStores [tg] e X.env = Pure.pure none := by rfl) : PS X (.Assign [tg] e pos) (tDS X.K xs wx (sUnp t f)) := by
  refine ⟨fun pins s sg H D I h => ?_⟩
  obtain ⟨F, io, st, env, fr, w⟩ := h
  refine wpAny_Assign_stores (thn (he.run pins s sg H (fun v H1 => gD X.K t v sg H1 fun sg2 H2 => D.nx sg2 H2) I ?_) fun v s1 ⟨x, H1, I1, r1, q1⟩ => ?_) hs hw
  · refine ⟨Gs F env sg, io, st, env, fr.ok, fr.er, (WantsS.expr fr w).impR fun st1 io1 H1 u ok1 e1 z v rv => ?_⟩
    obtain ⟨z1, z2⟩ := z
    cases ht : t u with
    | none => rw [ht] at z2; exact z2.elim
    | some l =>
      rw [ht] at z2
      refine ⟨Gs F env sg, io1, u, l, rv, ht, fun vs rvs => ?_⟩
      obtain ⟨f3, e3⟩ := z1.setAll l vs rvs
      exact z2 io1 _ H1 f3 e3
  · rw [hm]
    show wpAny _ _ (assign tg X.env v) _ _ _
    exact thn (hg.run pins s1 sg H1 x v _ I1 r1 q1) fun _ s2 ⟨sg2, H2, I2, q2⟩ => ⟨sg2, H2, I2, q2⟩
end
@[simp] theorem sUnp_ap (t : Tg) (f : DE) (env : Env) (st : Store) : sUnp t f env st = (f env st).out env fun u st1 => match t u with
  | none => .bad
  | some l => .nx (setE env l) st1 := (rfl)
end D
namespace D
open PySem L2
def tgA (is : List Nat) : Tg := fun u => match u with
  | .tup us => if us.length = is.length then some (is.zip us) else none
  | .lst us => if us.length = is.length then some (is.zip us) else none
  | _ => none
section
variable {X : Cx} {xs : XS} {wx : WX} {pos : Pos}
theorem pg_or {tg : Expr} {t1 t2 : TG} (h1 : PG X tg t1) (h2 : PG X tg t2) : PG X tg (fun v sg H Q => t1 v sg H Q ∨ t2 v sg H Q) :=
  ⟨fun pins s sg H v u Q I r h => h.elim (fun z => h1.run pins s sg H v u Q I r z) fun z => h2.run pins s sg H v u Q I r z⟩
theorem g_any {es : List Expr} {k : Nat} {is : List Nat} (hc : X.calm = true) (hN : X.N.Nodup) (h : GNames X es is) : PG X (.Tuple es k pos) (gD X.K (tgA is)) := by
  obtain ⟨h1, h2, h3⟩ := GNames.pgs hN h
  refine pg_imp (pg_or (pg_tup hc h1 h2 h3) (pg_lst hc h1 h2 h3)) fun v sg H Q q => ?_
  obtain ⟨G, io, u, l, r, e, q⟩ := q
  cases u with
  | tup us =>
    simp only [tgA] at e
    split at e
    · rename_i hl
      cases e
      obtain ⟨a, vs, rfl, lt, rs⟩ := r.tup'
      have hv : vs.length = is.length := by rw [← rs.length]; exact hl
      rw [zip_fst _ _ hl, zip_snd _ _ hl] at q
      exact .inl ⟨a, vs, rfl, lt.sq, hv, gSet_of is vs sg hv (q vs rs)⟩
    · cases e
  | lst us =>
    simp only [tgA] at e
    split at e
    · rename_i hl
      cases e
      obtain ⟨a, vs, rfl, lt, rs⟩ := r.lst'
      have hv : vs.length = is.length := by rw [← rs.length]; exact hl
      rw [zip_fst _ _ hl, zip_snd _ _ hl] at q
      exact .inr ⟨a, vs, rfl, lt.sq, hv, gSet_of is vs sg hv (q vs rs)⟩
    · cases e
  | _ => cases e
end
@[simp] theorem add_int (i j : Int) : add2 (.int i) (.int j) = some (.int (i + j)) := (rfl)
@[simp] theorem sub_int (i j : Int) : sub2 (.int i) (.int j) = some (.int (i - j)) := (rfl)
@[simp] theorem lt_int (i j : Int) : lt2 (.int i) (.int j) = some (.bl (decide (i < j))) := (rfl)
@[simp] theorem le_int (i j : Int) : le2 (.int i) (.int j) = some (.bl (decide (i ≤ j))) := (rfl)
@[simp] theorem gt_int (i j : Int) : gt2 (.int i) (.int j) = some (.bl (decide (j < i))) := (rfl)
@[simp] theorem ge_int (i j : Int) : ge2 (.int i) (.int j) = some (.bl (decide (j ≤ i))) := (rfl)
@[simp] theorem eq_int (i j : Int) : eq2 (.int i) (.int j) = some (.bl (decide (i = j))) := (rfl)
@[simp] theorem ne_int (i j : Int) : ne2 (.int i) (.int j) = some (.bl (!decide (i = j))) := (rfl)
@[simp] theorem eq_str (i j : Str) : eq2 (.str i) (.str j) = some (.bl (decide (i = j))) := (rfl)
@[simp] theorem ne_str (i j : Str) : ne2 (.str i) (.str j) = some (.bl (!decide (i = j))) := (rfl)
@[simp] theorem eq_bl (i j : Bool) : eq2 (.bl i) (.bl j) = some (.bl (decide (i = j))) := (rfl)
@[simp] theorem ne_bl (i j : Bool) : ne2 (.bl i) (.bl j) = some (.bl (!decide (i = j))) := (rfl)
@[simp] theorem is_bl (i j : Bool) : is2 (.bl i) (.bl j) = some (.bl (decide (i = j))) := (rfl)
@[simp] theorem isnot_bl (i j : Bool) : isnot2 (.bl i) (.bl j) = some (.bl (!decide (i = j))) := (rfl)
@[simp] theorem lt_str (i j : Str) : lt2 (.str i) (.str j) = some (.bl (ltC i j)) := (rfl)
@[simp] theorem le_str (i j : Str) : le2 (.str i) (.str j) = some (.bl (!ltC j i)) := (rfl)
@[simp] theorem neg_int (i : Int) : neg1 (.int i) = some (.int (-i)) := (rfl)
@[simp] theorem len_lst (us : List U) : lenN [.lst us] = some (.int us.length) := (rfl)
@[simp] theorem len_tup (us : List U) : lenN [.tup us] = some (.int us.length) := (rfl)
@[simp] theorem len_scr (us : List Int) : lenN [.scr us] = some (.int us.length) := (rfl)
@[simp] theorem tup_lst (us : List U) : tupN [.lst us] = some (.tup us) := (rfl)
@[simp] theorem tup_tup (us : List U) : tupN [.tup us] = some (.tup us) := (rfl)
@[simp] theorem items_lst (us : List U) : items (.lst us) = some us := (rfl)
@[simp] theorem items_tup (us : List U) : items (.tup us) = some us := (rfl)
@[simp] theorem max_int (i j : Int) : maxN [.int i, .int j] = some (.int (if j > i then j else i)) := (rfl)
@[simp] theorem min_int (i j : Int) : minN [.int i, .int j] = some (.int (if j < i then j else i)) := (rfl)
@[simp] theorem abs_int (i : Int) : absN [.int i] = some (.int (if i < 0 then -i else i)) := (rfl)
end D
namespace D
open PySem L2
mutual
def kRep (K : PySem.W.Frag) : U → Value → Bool
  | .non, .none => true
  | .bl b, .bool c => b == c
  | .int i, .int j _ => decide (i = j)
  | .str x, .str y _ => decide (x = y)
  | .tup us, .ref a => (match K.lookup a with
      | some o => (match o.cls, o.data with
        | .type n, .seq its _ => n == "tuple" && decide (its.size ≤ sizeLine) && kReps K us its.toList
        | _, _ => false)
      | none => false)
  | _, _ => false
def kReps (K : PySem.W.Frag) : List U → List Value → Bool
  | [], [] => true
  | u :: us, v :: vs => kRep K u v && kReps K us vs
  | _, _ => false
end
mutual
theorem kRep_ok {K : PySem.W.Frag} : ∀ (u : U) (v : Value), kRep K u v = true → ∃ x : V, RelV x v ∧ ∀ W io H, Rep K W io H u x
  | .non, v, h => by
    unfold kRep at h
    cases v with
    | none => exact ⟨.non, rfl, fun _ _ _ => rNon⟩
    | _ => cases h
  | .bl b, v, h => by
    unfold kRep at h
    cases v <;> first | cases h | skip
    rename_i c
    have e : b = c := by simpa using h
    exact ⟨.bl b, by rw [e]; rfl, fun _ _ _ => rBl _⟩
  | .int i, v, h => by
    unfold kRep at h
    cases v <;> first | cases h | skip
    exact ⟨.int i, ⟨_, by rw [of_decide_eq_true h]⟩, fun _ _ _ => rInt _⟩
  | .str i, v, h => by
    unfold kRep at h
    cases v <;> first | cases h | skip
    exact ⟨.str i, ⟨_, by rw [of_decide_eq_true h]⟩, fun _ _ _ => rStr _⟩
  | .tup us, v, h => by
    unfold kRep at h
    cases v with
    | ref a =>
      dsimp only at h
      split at h
      · rename_i o ho
        split at h
        · rename_i n its k hc hd
          simp only [Bool.and_eq_true, decide_eq_true_eq] at h
          obtain ⟨⟨h1, h2⟩, h3⟩ := h
          obtain ⟨xs, hv, hr⟩ := kReps_ok us its.toList h3
          have hn : n = "tuple" := eq_of_beq h1
          exact ⟨.ref a, rfl, fun W io H => rTup (.inr ⟨o, its, k, ho, by rw [hc, hn], hd, h2, hv⟩) (hr W io H)⟩
        · cases h
      · cases h
    | _ => cases h
  | .lst _, v, h => by unfold kRep at h; cases v <;> cases h
  | .dct _ _, v, h => by unfold kRep at h; cases v <;> cases h
  | .ref _, v, h => by unfold kRep at h; cases v <;> cases h
  | .ty _, v, h => by unfold kRep at h; cases v <;> cases h
  | .scr _, v, h => by unfold kRep at h; cases v <;> cases h
theorem kReps_ok {K : PySem.W.Frag} : ∀ (us : List U) (vs : List Value), kReps K us vs = true → ∃ xs : List V, Vals xs vs ∧ ∀ W io H, Reps K W io H us xs
  | [], [], _ => ⟨[], .nil, fun _ _ _ => .nil⟩
  | [], _ :: _, h => by unfold kReps at h; cases h
  | _ :: _, [], h => by unfold kReps at h; cases h
  | u :: us, v :: vs, h => by
    unfold kReps at h
    simp only [Bool.and_eq_true] at h
    obtain ⟨x, r, a⟩ := kRep_ok u v h.1
    obtain ⟨xs, rs, as⟩ := kReps_ok us vs h.2
    exact ⟨x :: xs, .cons r rs, fun W io H => .cons (a W io H) (as W io H)⟩
end
def isKey (x : Str) (v : Value) : Bool := match v with
  | .str y _ => decide (x = y)
  | _ => false
def kEnts (K : PySem.W.Frag) : List (Str × U) → List DictEntry → Bool
  | [], [] => true
  | p :: r, e :: s => isKey p.1 e.key && kRep K p.2 e.val && kEnts K r s
  | _, _ => false
def tabAt (tab : List (Str × U)) (x : Str) : Option U := (tab.find? fun p => decide (p.1 = x)).map (·.2)
theorem ents_find {K : PySem.W.Frag} {z : Str} : ∀ (tab : List (Str × U)) (es : List DictEntry), kEnts K tab es = true →
    es.any (·.refKey) = false ∧ (match tabAt tab z with
      | some u => ∃ e, es.find? (·.key.isStr z) = some e ∧ kRep K u e.val = true
      | none => es.find? (·.key.isStr z) = none)
  | [], [], _ => ⟨rfl, rfl⟩
  | [], _ :: _, h => by unfold kEnts at h; cases h
  | _ :: _, [], h => by unfold kEnts at h; cases h
  | p :: r, e :: s, h => by
    unfold kEnts at h
    simp only [Bool.and_eq_true] at h
    obtain ⟨⟨h1, h2⟩, h3⟩ := h
    obtain ⟨i1, i2⟩ := ents_find (z := z) r s h3
    unfold isKey at h1
    split at h1
    · rename_i y t hy
      have hp : p.1 = y := of_decide_eq_true h1
      have hk : e.refKey = false := by unfold DictEntry.refKey; rw [hy]
      refine ⟨by simp [hk]; simpa using i1, ?_⟩
      unfold tabAt at i2 ⊢
      have hs : e.key.isStr z = decide (p.1 = z) := by
        rw [hy, hp]
        show (y == z) = _
        by_cases q : y = z
        · subst q; simp
        · simp [q]
      by_cases hz : p.1 = z
      · rw [List.find?_cons_of_pos (by simpa using hz)]
        exact ⟨e, by rw [List.find?_cons_of_pos (by rw [hs]; simpa using hz)], h2⟩
      · rw [List.find?_cons_of_neg (by simpa using hz)]
        rw [List.find?_cons_of_neg (by rw [hs]; simpa using hz)]
        exact i2
    · cases h1
def KTab (K : PySem.W.Frag) (w : World) (mg : Str → Option Value) (x : Str) (tab : List (Str × U)) : Prop :=
  ∃ d es n, mg x = some (.ref d) ∧ KDict K w d es n ∧ kEnts K tab es.toList = true
theorem kd_ns {K : PySem.W.Frag} {w : World} {d : Addr} {es : Array DictEntry} {n : Nat} {tab : List (Str × U)} (D : KDict K w d es n) (h : kEnts K tab es.toList = true) (z : Str) :
    match tabAt tab z with
      | some u => ∃ v x, PySem.W.nsIn K d z = some (some v) ∧ RelV x v ∧ ∀ W io H, Rep K W io H u x
      | none => PySem.W.nsIn K d z = some none := by
  obtain ⟨h1, h2⟩ := ents_find (z := z) tab es.toList h
  unfold PySem.W.nsIn
  rw [D.at_]
  dsimp only
  cases q : tabAt tab z with
  | some u =>
    rw [q] at h2
    obtain ⟨e, e1, e2⟩ := h2
    obtain ⟨x, r, a⟩ := kRep_ok u e.val e2
    exact ⟨e.val, x, by rw [e1], r, a⟩
  | none =>
    rw [q] at h2
    show _ = some none
    dsimp only at h2
    rw [h2, if_neg (by rw [h1]; exact Bool.false_ne_true)]
def tabNot (tab : List (Str × U)) : U → Option U
  | .str x => some (.bl (!(tabAt tab x).isSome))
  | _ => none
def tabGet (tab : List (Str × U)) : U → Option U
  | .str x => tabAt tab x
  | _ => none
section
variable {X : Cx} {xs : XS} {wx : WX} {pos p : Pos} {x : Str} {tab : List (Str × U)} {a : Expr} {f : DE}
theorem ap1_read {g : U → Option U} {sg : L2.St} {H : Hp} {Q : VK} (h : tD X.K xs wx (ap1 g f) sg H Q) : tD X.K xs wx f sg H (fun v H1 => P1 X.K g v H1 Q) := by
  obtain ⟨G, io, st, env, ok, er, w⟩ := h
  refine ⟨G, io, st, env, ok, er, w.bind.impR fun st1 io1 H1 u ok1 e1 w1 v rv => ?_⟩
  obtain ⟨r, hr, w2⟩ := w1.pure
  exact ⟨G, io1, st1, u, r, ok1, rv, hr, fun v' H' s q => w2.hereS ok1 s v' q⟩
theorem tD_imp {sg : L2.St} {H : Hp} {Q Q' : VK} (h : tD X.K xs wx f sg H Q) (i : ∀ v H1, Q v H1 → Q' v H1) : tD X.K xs wx f sg H Q' := by
  obtain ⟨G, io, st, env, ok, er, w⟩ := h
  exact ⟨G, io, st, env, ok, er, w.impR fun st1 io1 H1 u ok1 e1 w1 v rv => i v H1 (w1 v rv)⟩
theorem nin_read {d : Addr} {es : Array DictEntry} {n : Nat} {v : V} {H : Hp} {Q : VK} (D : KDict X.K X.w d es n) (hk : kEnts X.K tab es.toList = true) (h : P1 X.K (tabNot tab) v H Q) :
    ∃ (z : Str) (r : Option Value), v = .str z ∧ (V.ref d) = .ref d ∧ PySem.W.nsIn X.K d z = some r ∧ Q (.bl (!r.isSome)) H := by
  obtain ⟨G, io, st, u1, u, ok, rv, hu, fin⟩ := h
  unfold tabNot at hu
  split at hu
  · rename_i z
    cases hu
    have q := kd_ns D hk z
    have f := fin (.bl (!(tabAt tab z).isSome)) H (fun _ _ e => e) (rBl _)
    cases e : tabAt tab z with
    | some u =>
      rw [e] at q f
      obtain ⟨v', x', q1, _, _⟩ := q
      exact ⟨z, some v', rv.str', rfl, q1, f⟩
    | none =>
      rw [e] at q f
      exact ⟨z, none, rv.str', rfl, q, f⟩
  · cases hu
theorem t_tabNin (T : KTab X.K X.w X.mg x tab) (hg : Gl X x) (ha : PE X a (tD X.K xs wx f)) (hd : (x == ("__debug__" : Str)) = false := by decide) : PT X (.Compare a [.NotIn] [.Name x p] pos) (tDT X.K xs wx (tst (ap1 (tabNot tab) f))) := by
  obtain ⟨d, es, n, hm, D, hk⟩ := T
  exact pt_imp (pt_cmpR (op_notIn_kd D) ha (pe_glob (v := .ref d) hg hm rfl hd) (by first | exact nomark _ | rfl)) fun sg H Q h => tD_imp (ap1_read (tst_read (t := tVar 0) h)) fun v H1 q => nin_read D hk q
theorem d_tabIx (T : KTab X.K X.w X.mg x tab) (hg : Gl X x) (ha : PE X a (tD X.K xs wx f)) (hs : PlainIx a) (hd : (x == ("__debug__" : Str)) = false := by decide) : PE X (.Subscript (.Name x p) a pos) (tD X.K xs wx (ap1 (tabGet tab) f)) := by
  obtain ⟨d, es, n, hm, D, hk⟩ := T
  refine pe_imp (pe_ix ix_kdict (pe_glob (v := .ref d) hg hm rfl hd) ha hs) fun sg H Q h => ?_
  refine tD_imp (ap1_read h) fun v H1 q => ?_
  obtain ⟨G, io, st, u1, u, ok, rv, hu, fin⟩ := q
  unfold tabGet at hu
  split at hu
  · rename_i z
    have q := kd_ns D hk z
    rw [hu] at q
    obtain ⟨v', x', q1, q2, q3⟩ := q
    exact ⟨d, z, x', rfl, rv.str', ⟨es, n, v', D.at_, D.lit, q1, q2⟩, fin x' H1 (fun _ _ e => e) (q3 _ _ _)⟩
  · cases hu
end
end D
namespace D
open PySem L2
theorem list_extend_tup (l : Addr) (items : Array Value) (n : Nat) (b : Addr) (items2 : Array Value) (n2 : Nat) (dd : Option Addr) (sl : Array (Option Value)) (hs0 : ¬(!items.isEmpty && Builtin.List.listTooLong (items.size + items2.size)) = true) (hs1 : items.size ≤ sizeLine) (hs2 : items.size + items2.size ≤ sizeLine + 1) :
    Meets (Builtin.«list.extend» ⟨[.ref l, .ref b], []⟩) (fun _ R s => s.heap.get? l = some { cls := .type "list", dict := none, data := .seq items n, slots := #[] } ∧ s.heap.get? b = some { cls := .type "tuple", dict := dd, data := .seq items2 n2, slots := sl } ∧ R (.ok (.ret Value.none)) { s with heap := s.heap.update l (Obj.mapSeq fun x => x ++ items2), toks := s.toks }) :=
  .of_wp fun prog w A R s h => by
    obtain ⟨hp, g, d, tk, os⟩ := s; obtain ⟨hl, hb, h⟩ := h; have f1 := AutoSeq1.idx_int; have f2 := AutoSeq1.sub_tuple_tuple; have f3 := AutoSeq1.sub_list_list; have f4 := AutoSeq1.sub_tuple_list; have f5 := AutoSeq1.sub_list_tuple;
    have hz' : (items ++ items2).size ≤ sizeLine + 1 := by rw [Array.size_append]; exact hs2
    wp_walk using (wpAny_updateSeq hl rfl (hz := hs1) (_hz' := hz')), AutoSeq1.wpAny_loadPart' hl, AutoSeq1.wpAny_loadPart' hb; exact ⟨_, rfl, h⟩
def rExtT (K : PySem.W.Frag) : V → List V → Hp → VK → Prop := fun x vs H Q => ∃ l b xs zs, x = .ref l ∧ vs = [.ref b] ∧ H l = some (.lst xs) ∧ SqT K H b zs ∧ xs.length + zs.length ≤ sizeLine ∧ Q .non (upd H l (.lst (xs ++ zs)))
section
variable {X : Cx}
theorem mt_extT : MtM X "list.extend" (rExtT X.K) := by
  intro pins s σ H x vs v us Q I rx rv h
  obtain ⟨l, b, xs, zs, rfl, rfl, hH, hB, hz, q⟩ := h
  cases rx
  obtain ⟨u, rfl, ru⟩ := rv.one
  cases ru
  obtain ⟨z, its, n, r, hl, e⟩ := I.lstM hH
  obtain ⟨its2, r2, ⟨⟨cls, dd, data, sl⟩, e2, hcls, n2, hdata⟩, z2⟩ := I.tuple hB
  simp only at hcls hdata
  subst hcls; subst hdata
  have l2 := r2.length
  have hsz : its.toArray.size + its2.toArray.size ≤ sizeLine := by rw [List.size_toArray, List.size_toArray]; omega
  have hlong : ¬ (!its.toArray.isEmpty && Builtin.List.listTooLong (its.toArray.size + its2.toArray.size)) = true := by
    rw [notLongL hsz, Bool.and_false]
    exact Bool.false_ne_true
  refine call_meets F.slot_list_extend ⟨_, e, rfl⟩ F.entry_list_extend (F.args_list_extend_2 _ _)
    (list_extend_tup l its.toArray n b its2.toArray n2 dd sl hlong (by rw [List.size_toArray]; omega) (by omega)) ⟨e, e2, ?_⟩
  refine ⟨.non, _, I.lset (its' := its ++ its2) hH e (by simp) (r.append r2) ?_, rfl, q⟩
  rw [List.length_append]
  omega
theorem mt_extA : MtM X "list.extend" (fun x vs H Q => rExtend x vs H Q ∨ rExtT X.K x vs H Q) := by
  intro pins s σ H x vs v us Q I rx rv h
  exact h.elim (mt_extend pins s σ H x vs v us Q I rx rv) (mt_extT pins s σ H x vs v us Q I rx rv)
variable {xs : XS} {wx : WX} {pos : Pos}
def seqU : U → Option (List U)
  | .lst us => some us
  | .tup us => some us
  | _ => none
def sExt (i : Nat) (f : DE) : DS := fun env st => match env[i]? with
  | some (.own us) => (f env st).out env fun u st1 => match seqU u with
    | some ws => if us.length + ws.length ≤ sizeLine then .nx (env.set i (.own (us ++ ws))) st1 else .bad
    | none => .bad
  | _ => .bad
theorem s_ext {i : Nat} {x : Str} {e : Expr} {f : DE} {p1 p2 : Pos} (hN : X.N[i]? = some x) (hv : Vis X.env.scope x) (he : PE X e (tD X.K xs wx f)) (hd : (x == ("__debug__" : Str)) = false := by decide) (hcd : (x == ("__classdict__" : Str)) = false := by decide)
    (hfew : ((backTo pos (starEach [e] X.env)).all (fun x => !x.1) && (backToKw pos (keywordEach [] X.env)).all (fun x => x.1.isSome) && decide ([e].length + ([] : List Keyword).length + (if ([] : List Keyword).isEmpty then 0 else 1) < 30)) = true := by rfl)
    (hline : (p1.endLine == pos.line) = true := by rfl) (hs : starEach (e :: []) X.env = (false, eval e X.env) :: starEach [] X.env := by rfl) (hplain : (backTo pos (starEach [] X.env)).any (·.1) = false := by rfl)
    (hsw : swapsWith (.Call (.Attribute (.Name x p2) "extend" p1) [e] [] pos) none pos.line X.env = Pure.pure false := by rfl) {pos2 : Pos} :
    PS X (.Expr (.Call (.Attribute (.Name x p2) "extend" p1) [e] [] pos) pos2) (tDS X.K xs wx (sExt i f)) := by
  refine ps_imp (ps_expr (pe_bm PySem.F.plainAttrs_list PySem.F.slot_list_extend PySem.F.type_list_extend mt_extA (pe_var (i := i) hN hv hd hcd) (pa_cons he pa_nil hs) (by rfl) hfew hline hs hplain) hsw) fun D sg H h => ?_
  obtain ⟨F, io, st, env, fr, w⟩ := h
  unfold sExt at w
  split at w
  · rename_i us q
    obtain ⟨a, vs, e1, e2, r⟩ := fr.slot q
    refine ⟨.ref a, e1, .inl ⟨rfl, vs, .inl (.inl e2)⟩, ?_⟩
    refine ⟨Gs F env sg, io, st, env, fr.ok, fr.er, (WantsS.expr fr w).impR fun st1 io1 H1 u ok1 ex1 z v rv => ?_⟩
    have z2 := z.2
    obtain ⟨a', vs', e1', e2', r'⟩ := z.1.slot q
    rw [e1] at e1'; cases e1'
    split at z2
    · rename_i ws hws
      split at z2
      · rename_i hl
        cases u with
        | lst us' =>
          cases hws
          obtain ⟨b, zs, rfl, lb, rb⟩ := rv.lst'
          refine .inl ⟨a, b, vs', zs, rfl, rfl, e2', lb.1, by rw [← r'.length, ← rb.length]; exact hl, ?_⟩
          have y := z.1.turnOwn q e1 (r'.append rb)
          exact z2 io1 _ _ y.1 y.2
        | tup us' =>
          cases hws
          obtain ⟨b, zs, rfl, lb, rb⟩ := rv.tup'
          refine .inr ⟨a, b, vs', zs, rfl, rfl, e2', lb.sq, by rw [← r'.length, ← rb.length]; exact hl, ?_⟩
          have y := z.1.turnOwn q e1 (r'.append rb)
          exact z2 io1 _ _ y.1 y.2
        | _ => cases hws
      · exact z2.elim
    · exact z2.elim
  · exact w.elim
theorem sext (i : Nat) {x : Str} {e : Expr} {f : DE} {p1 p2 : Pos} (he : PE X e (tD X.K xs wx f)) (hN : X.N[i]? = some x := by rfl) (hv : Vis X.env.scope x := by first | exact Or.inl rfl | exact Or.inr (Or.inl rfl) | exact Or.inr (Or.inr rfl)) (hd : (x == ("__debug__" : Str)) = false := by decide) (hcd : (x == ("__classdict__" : Str)) = false := by decide)
    (hfew : ((backTo pos (starEach [e] X.env)).all (fun x => !x.1) && (backToKw pos (keywordEach [] X.env)).all (fun x => x.1.isSome) && decide ([e].length + ([] : List Keyword).length + (if ([] : List Keyword).isEmpty then 0 else 1) < 30)) = true := by rfl)
    (hline : (p1.endLine == pos.line) = true := by rfl) (hs : starEach (e :: []) X.env = (false, eval e X.env) :: starEach [] X.env := by rfl) (hplain : (backTo pos (starEach [] X.env)).any (·.1) = false := by rfl)
    (hsw : swapsWith (.Call (.Attribute (.Name x p2) "extend" p1) [e] [] pos) none pos.line X.env = Pure.pure false := by rfl) {pos2 : Pos} :
    PS X (.Expr (.Call (.Attribute (.Name x p2) "extend" p1) [e] [] pos) pos2) (tDS X.K xs wx (sExt i f)) := s_ext hN hv he hd hcd hfew hline hs hplain hsw
end
@[simp] theorem sExt_ap (i : Nat) (f : DE) (env : Env) (st : Store) : sExt i f env st = match env[i]? with
  | some (.own us) => (f env st).out env fun u st1 => match seqU u with
    | some ws => if us.length + ws.length ≤ sizeLine then .nx (env.set i (.own (us ++ ws))) st1 else .bad
    | none => .bad
  | _ => .bad := (rfl)
@[simp] theorem seqU_lst (us : List U) : seqU (.lst us) = some us := (rfl)
@[simp] theorem seqU_tup (us : List U) : seqU (.tup us) = some us := (rfl)
end D
namespace D
open PySem L2
def catU : U → U → Option (List U)
  | .lst a, .lst b => if a.length + b.length ≤ sizeLine then some (a ++ b) else none
  | _, _ => none
def catL (f g : DE) : DL := fun env st => (f env st).bind fun u st1 => (g env st1).bind fun v st2 => Rs.of (catU u v) st2
section
variable {X : Cx} {xs : XS} {wx : WX} {pos : Pos}
theorem l_cat {a b : Expr} {f g : DE} (ha : PE X a (tD X.K xs wx f)) (hb : PE X b (tD X.K xs wx g)) : PE X (.BinOp a .Add b pos) (tDL X.K xs wx (catL f g)) :=
  pe_imp (pe_op op_cat ha hb) fun sg H Q q => by
    obtain ⟨G, io, st, env, ok, er, w⟩ := q
    refine ⟨G, io, st, env, ok, er, w.bind.impR fun st1 io1 H1 u ok1 e1 w1 v rv => ?_⟩
    refine ⟨G, io1, st1, env, ok1, er.ext ok.dj e1, w1.bind.impR fun st2 io2 H2 u2 ok2 e2 w2 v2 rv2 => ?_⟩
    obtain ⟨ws, hu, w3⟩ := w2.pure
    unfold catU at hu
    split at hu
    · rename_i as bs
      split at hu
      · rename_i hz
        cases hu
        obtain ⟨p, ys, rfl, l, r⟩ := (rv.ext e2).lst'
        obtain ⟨p', ys', rfl, l', r'⟩ := rv2.lst'
        refine ⟨p, p', ys, ys', rfl, rfl, l.1, l'.1, by rw [← r.length, ← r'.length]; exact hz, fun q hq => ?_⟩
        exact w3.here ok2 _ q (r.append r') hq
      · cases hu
    · cases hu
end
@[simp] theorem catL_ap (f g : DE) (env : Env) (st : Store) : catL f g env st = (f env st).bind fun u st1 => (g env st1).bind fun v st2 => Rs.of (catU u v) st2 := (rfl)
@[simp] theorem catU_lst (a b : List U) : catU (.lst a) (.lst b) = if a.length + b.length ≤ 16777216 then some (a ++ b) else none := by rw [← sizeLine_val]; rfl
end D
namespace D
open PySem L2
section
variable {X : Cx} {xs : XS} {wx : WX} {pos : Pos}
def maxI (n : Int) (r : List Int) : Int := r.foldl (fun a y => if a < y then y else a) n
/-- max(xs, default=d) -/
def maxD2 : U → U → Option U
  | .lst us, d => match intsU us with
    | some (n :: r) => some (.int (maxI n r))
    | some [] => some d
    | none => none
  | _, _ => none
def maxDef (f g : DE) : DE := fun env st => (f env st).bind fun u st1 => (g env st1).bind fun v st2 => Rs.of (maxD2 u v) st2
end
@[simp] theorem maxDef_ap (f g : DE) (env : Env) (st : Store) : maxDef f g env st = (f env st).bind fun u st1 => (g env st1).bind fun v st2 => Rs.of (maxD2 u v) st2 := (rfl)
end D
namespace D
open PySem L2
def ownL : Option Sl → Option (List U)
  | some (.own us) => some us
  | some (.val (.lst us)) => some us
  | _ => none
def flat1 (o : Option U) : Option U := match o with
  | some u => if flatU u then some u else none
  | none => none
def binO (g : U → U → Option U) (fa : DE) (i : Nat) : DE := fun env st => (fa env st).bind fun u st1 => Rs.of ((ownL env[i]?).bind fun us => flat1 (g u (.lst us))) st1
theorem flat_any {K : PySem.W.Frag} {W W' : Addr → Prop} {io io' : List Addr} {H H' : Hp} {u : U} {v : V} (h : flatU u = true) (r : Rep K W io H u v) : Rep K W' io' H' u v := by
  cases u <;> first | (unfold Rep at r ⊢; exact r) | cases h
theorem own_look {K : PySem.W.Frag} {G : Addr → Prop} {io : List Addr} {st : Store} {H : Hp} {env : Env} {sg : L2.St} {i : Nat} {us : List U} (ok : Ok K G io st H) (er : EnvRep K G io H env sg) (h : ownL env[i]? = some us) :
    ∃ v G', sg[i]? = some (some v) ∧ (∀ b, G' b → G b) ∧ Ok K G' io st H ∧ Rep K (Wf G' io) io H (.lst us) v := by
  have hi : ∀ s, env[i]? = some s → ∃ o, sg[i]? = some o := fun s e => by
    have hl : i < sg.length := by rw [← er.len]; exact (List.getElem?_eq_some_iff.mp e).1
    exact ⟨_, List.getElem?_eq_getElem hl⟩
  unfold ownL at h
  split at h
  · rename_i ws e
    cases h
    obtain ⟨o, ho⟩ := hi _ e
    obtain ⟨a, vs, rfl, q2, q3, q4⟩ := er.sl i _ o e ho
    have sub : ∀ b, (fun b => G b ∧ b ≠ a) b → G b := fun b z => z.1
    have m : Mono G io H (fun b => G b ∧ b ≠ a) io H := ⟨⟨[], by simp⟩, fun b o n z => ⟨z, fun y => n (y.imp (fun w => w.1) id)⟩⟩
    refine ⟨.ref a, _, ho, sub, ok.mono sub, ?_⟩
    unfold Rep
    exact ⟨a, vs, rfl, ⟨q3, fun z => z.elim (fun w => w.2 rfl) fun w => ok.dj a w q2⟩, q4.mono m⟩
  · rename_i ws e
    cases h
    obtain ⟨o, ho⟩ := hi _ e
    obtain ⟨v, rfl, q⟩ := er.sl i _ o e ho
    exact ⟨v, G, ho, fun _ z => z, ok, q⟩
  · cases h
theorem flat1_of {o : Option U} {u : U} (h : flat1 o = some u) : o = some u ∧ flatU u = true := by
  unfold flat1 at h
  split at h
  · split at h
    · rename_i q; cases h; exact ⟨rfl, q⟩
    · cases h
  · cases h
@[simp] theorem binO_ap (g : U → U → Option U) (fa : DE) (i : Nat) (env : Env) (st : Store) : binO g fa i env st = (fa env st).bind fun u st1 => Rs.of ((ownL env[i]?).bind fun us => flat1 (g u (.lst us))) st1 := (rfl)
@[simp] theorem ownL_own (us : List U) : ownL (some (.own us)) = some us := (rfl)
@[simp] theorem ownL_val (us : List U) : ownL (some (.val (.lst us))) = some us := (rfl)
@[simp] theorem flat1_bl (b : Bool) : flat1 (some (.bl b)) = some (.bl b) := (rfl)
@[simp] theorem flat1_int (b : Int) : flat1 (some (.int b)) = some (.int b) := (rfl)
end D
namespace D
open PySem L2
def isX (t : List (Str × Bool)) (f : DE) : DE := fun env st => (f env st).bind fun u st1 => match u with
  | .ref n => match st1[n]? with
    | some (.ins c _) => match tabB t c with
      | some b => .ok (.bl b) st1
      | none => .bad
    | _ => .bad
  | _ => .bad
def attrX (cs : List Str) (n : Str) (f : DE) : DE := fun env st => (f env st).bind fun u st1 => match u with
  | .ref k => match st1[k]? with
    | some (.ins c fs) => if c ∈ cs then match fs.lookup n with
      | some v => .ok v st1
      | none => .bad else .bad
    | _ => .bad
  | _ => .bad
section
variable {X : Cx} {xs : XS} {wx : WX} {pos : Pos}
theorem flat_of : ∀ {fs : List (Str × U)} {ws : List (Str × V)} {n : Str} {u : U}, fs.map (fun p => (p.1, flatE p.2)) = ws.map (fun p => (p.1, some p.2)) → fs.lookup n = some u → ∃ v, ws.lookup n = some v ∧ flatE u = some v
  | [], _, _, _, _, h => nomatch h
  | p :: fs, [], _, _, e, _ => nomatch e
  | (a, x) :: fs, (b, y) :: ws, n, u, e, h => by
    simp only [List.map_cons, List.cons.injEq, Prod.mk.injEq] at e
    obtain ⟨⟨rfl, e1⟩, e2⟩ := e
    rw [List.lookup_cons] at h ⊢
    split at h
    · cases h
      exact ⟨y, rfl, e1⟩
    · exact flat_of e2 h
theorem flat_rp {K : PySem.W.Frag} {W : Addr → Prop} {io : List Addr} {H : Hp} {u : U} {v : V} (h : flatE u = some v) : Rep K W io H u v := by
  cases u <;> simp only [flatE] at h <;> first | (cases h; unfold Rep; rfl) | cases h
end
/-- B.__init__(self, ..), B an own class over ValueError without own __init__ -/
theorem pe_baseI {X : Cx} {x : Str} {B : Addr} {e : Expr} {es : List Expr} {ta : TA} {p1 p2 pos : Pos} {pl : Sem Bool} (hg : Gl X x) (hm : X.mg x = some (.ref B)) (g1 : PySem.W.specialIn X.K (.ref B) "__getattribute__" = some (some (.builtin "type.__getattribute__"))) (g2 : PySem.W.typeIn X.K (.ref B) = some (.type "type")) (g3 : PySem.W.readsIn X.K B (.type "type") = true)
    (vV : PySem.W.findCls X.K (.ref B) (.type "type") "__init__" = some (.val (.builtin "ValueError.__init__"))) (ha : PA X (e :: es) ta)
    (hc : eval (.Call (.Attribute (.Name x p1) "__init__" p2) (e :: es) [] pos) X.env = (do
      let ov ← eval (.Name x p1) X.env
      standAt p2.atName
      let (f, first) ← holding [ov] (getMethod ov "__init__" pl)
      callWith pos f first (backTo pos (starEach (e :: es) X.env)) (backToKw pos (keywordEach [] X.env))) := by rfl) (hdb : (x == ("__debug__" : Str)) = false := by decide)
    (he : starEach (e :: es) X.env = (false, eval e X.env) :: starEach es X.env := by rfl) (hpl : (backTo pos (starEach es X.env)).any (·.1) = false := by rfl) :
    PE X (.Call (.Attribute (.Name x p1) "__init__" p2) (e :: es) [] pos) (tVeI X.K ta) := by
  refine ⟨fun pins s sg H Q I h => ?_⟩
  refine PySem.W.methodCall_KW (ld_glob I hg hm ?_ hdb) hc
  obtain ⟨m, fr⟩ := I.fr
  refine PySem.W.method_of_cls fr I.ok.mod.kin g1 (PySem.W.cls_val fr I.ok.mod.kin g2 g3 vV (by decide +kernel) ?_)
  show wpAny _ _ (callWith pos (Value.builtin "ValueError.__init__") [] (backTo pos (starEach (e :: es) X.env)) []) _ _ _
  refine PyProof.Rows.callWith_method1 (thn (ha.run pos pins _ sg H _ (I.tok _) h) fun us s1 ⟨vs, H1, I1, r1, a, C, ws, ev, hl, T, ea, q⟩ => ?_) he hpl
  subst ev
  cases r1 with
  | @cons _ u0 _ ur ra rw' =>
    obtain rfl : u0 = Value.ref a := ra
    have hlen : ur.length ≤ sizeLine := by
      rw [← Paired.length rw', sizeLine_eq]
      omega
    exact oinit_ok T I1 ea hlen fun s' J => ⟨.non, H1, J, rfl, q⟩
/-- what C's own __init__ promises: the fields ns are set, one behind the other -/
def spI (C : Addr) (ns : List Str) : Sp := fun vs H Q E => vs.length = ns.length + 1 ∧ ∃ a ws, vs = .ref a :: ws ∧ H a = some (exo a C none) ∧
  ∀ dx H2, H dx = none → H2 a = some (exo a C (some dx)) → H2 dx = some (exd dx (ns.zip ws).reverse) → (∀ b, b ≠ a → b ≠ dx → H2 b = H b) → Q .non H2
section
variable {X : Cx} {o : List V}
theorem init1_read {K : PySem.W.Frag} {C : Addr} {f1 : Str} {N : List Str} {vs : List V} {H : Hp} {Q : VK} {E : XK} {m : Str} (T : OexC K C) (n1 : PySem.W.findIn K (.ref C) f1 = some none) (hN : N.length = 2) (h : spI C [f1] vs H Q E) :
    tSeq (tDrop (tVeI K (tCons (tVar 0) (tCons (tC (.str m)) tNil)))) (tSeq (tOst K f1 (tVar 0) (tVar 1)) tNext) { nx := fun _ H' => Q .non H', rt := Q } (start N vs) H := by
  obtain ⟨hl, a, ws, rfl, ha, q⟩ := h
  match ws, hl with
  | [p], _ =>
    have st : start N [V.ref a, p] = [some (.ref a), some p] := by unfold L2.start; simp [hN]
    rw [st]
    refine ⟨.ref a, rfl, a, C, [.str m], rfl, by simp, T, ha, ?_⟩
    refine ⟨p, rfl, .ref a, rfl, a, C, rfl, T, n1, .inl ⟨ha, fun dx hd hda => ?_⟩⟩
    refine q dx _ hd upd_same (by rw [upd_ne hda, upd_same]; rfl) fun b h1 h2 => ?_
    rw [upd_ne h1, upd_ne h2]
end
/-- an own exception class with fields ns -/
structure ExFn (P : Program) (w : World) (K : PySem.W.Frag) (mg : Str → Option Value) (base : Heap) (x : Str) (k : Nat) (ns : List Str) : Prop where
  ex : ∃ C fI fd ps, clsAt K x = some C ∧ mg x = some (.ref C) ∧ OexC K C ∧ PySem.W.findIn K (.ref C) "__init__" = some (some (.ref fI)) ∧ PySem.W.typeIn K (.ref fI) = some (.type "function") ∧ Binds K fd ps [] ∧ FnOk P w K mg base (L2.CX P w) k fI fd ps (spI C ns)
def sRaise (c : Str) (ns : List Str) (fa : DA) : DS := fun env st => (fa env st).out env fun us st1 => if us.length = ns.length ∧ us.all flatU = true then .ex c (ns.zip us).reverse env st1 else .bad
theorem flat_zip {K : PySem.W.Frag} {W : Addr → Prop} {io : List Addr} {H : Hp} : ∀ (ns : List Str) {us : List U} {vs : List V}, Reps K W io H us vs → us.all flatU = true → (ns.zip us).map (fun p => (p.1, flatE p.2)) = (ns.zip vs).map (fun p => (p.1, some p.2))
  | [], us, vs, _, _ => by simp
  | n :: ns, [], vs, r, _ => by rw [r.isNil]; rfl
  | n :: ns, u :: us, vs, r, h => by
    obtain ⟨v, vr, rfl, r1, r2⟩ := r.uncons
    rw [List.all_cons, Bool.and_eq_true] at h
    rw [List.zip_cons_cons, List.zip_cons_cons, List.map_cons, List.map_cons, flat_zip ns r2 h.2]
    congr 1
    have e : flatE u = some v := by
      cases u <;> first | (unfold Rep at r1; subst r1; rfl) | (cases h.1)
    rw [e]
theorem s_raise {X : Cx} {wx : WX} {x : Str} {k : Nat} {ns : List Str} {e : Expr} {es : List Expr} {fa : DA} {p pos pos' : Pos} (F : ExFn X.prog X.w X.K X.mg X.base x k ns) (hc : X.calm = true) (tk : Takes X wx) (hr : Room (k + 1) X.A) (hg : Gl X x) (hns : ns.length ≤ 1000) (ha : PA X (e :: es) (tDA X.K (XSd X.K) wx fa))
    (hdb : (x == ("__debug__" : Str)) = false := by decide) (he : starEach (e :: es) X.env = (false, eval e X.env) :: starEach es X.env := by rfl) (hpl : (backTo pos (starEach es X.env)).any (·.1) = false := by rfl) :
    PS X (.Raise (some (.Call (.Name x p) (e :: es) [] pos)) none pos') (tDS X.K (XSd X.K) wx (sRaise x ns fa)) := by
  obtain ⟨C, fI, fd, ps, c1, c2, c3, c4, c5, c6, c7⟩ := F.ex
  refine ps_imp (ps_raise hc tk (pmk_oex (dvs := []) c3 c4 c5 c7 hr c6 .nil (fun _ _ _ _ _ _ _ z => (cx_no z).elim) hg c2 ha hdb he hpl)) fun D sg H h => ?_
  obtain ⟨F, io, st, env, fr, w⟩ := h
  refine ⟨Gs F env sg, io, st, env, fr.ok, fr.er, (WantsS.expr fr w).impR fun st1 io1 H1 us ok1 e1 q vs rvs => ?_⟩
  have q2 := q.2
  split at q2
  · rename_i hl
    have hlen : vs.length = ns.length := by rw [← rvs.length]; exact hl.1
    refine ⟨by omega, fun a na => ⟨by simp; omega, a, vs, by simp, upd_same, fun dx H2 h1 h2 h3 h4 => ⟨rfl, dx, _, h2, h3, ?_, ?_⟩⟩⟩
    · by_cases e : dx = a
      · subst e; exact na
      · rw [upd_ne e] at h1; exact h1
    · have hda : dx ≠ a := fun e => by subst e; rw [upd_same] at h1; cases h1
      have hn : H1 dx = none := by rw [upd_ne hda] at h1; exact h1
      have eH : upd (del H2 a) dx (.xd (ns.zip vs).reverse) = upd H1 dx (.xd (ns.zip vs).reverse) := by
        funext b
        by_cases hb : b = dx
        · subst hb; rw [upd_same, upd_same]
        · rw [upd_ne hb, upd_ne hb]
          by_cases hba : b = a
          · subst hba; rw [del_same, na]
          · rw [del_ne hba, h4 b hba hb, upd_ne hba]
      rw [eH]
      have sm : Same H1 (upd H1 dx (.xd (ns.zip vs).reverse)) := same_upd hn
      refine q2 io1 sg _ (q.1.ext (q.1.ok.same sm) (Ext.same sm)) ((Ext.same sm).o _) _ _ ⟨C, c1, rfl, .inr ⟨dx, _, rfl, upd_same, ?_⟩⟩
      rw [List.map_reverse, List.map_reverse, flat_zip ns rvs hl.2]
  · exact q2.elim
end D
namespace D
open PySem L2
/-- what is known of a class that is named -/
structure ClsF (K : PySem.W.Frag) (mg : Str → Option Value) (x : Str) (C : Addr) : Prop where
  mg : mg x = some (.ref C)
  at_ : clsAt K x = some C
  hd : PySem.W.hasDictIn K C = true
  ty : PySem.W.typeIn K (.ref C) = some (.type "type")
  ex : PySem.W.subIn K (.ref C) (.type "BaseException") = some true
theorem clsF_mk {K : PySem.W.Frag} {mg : Str → Option Value} {h : Heap} {x : Str} {C : Addr} (X : K.In h) (G : h.Ns mainGlobals mg) (a : PySem.W.nsIn K mainGlobals x = some (some (.ref C))) (hd : PySem.W.hasDictIn K C = true) (ty : PySem.W.typeIn K (.ref C) = some (.type "type")) (ex : PySem.W.subIn K (.ref C) (.type "BaseException") = some true) : ClsF K mg x C :=
  ⟨PySem.W.mg_of X G a, clsAt_of a, hd, ty, ex⟩
section
variable {K : PySem.W.Frag} {C B : Addr} {b : Bool}
theorem exm_cls (h1 : PySem.W.subIn K (.ref B) (.type "BaseException") = some true) (hd : PySem.W.hasDictIn K B = true) (ht : PySem.W.typeIn K (.ref B) = some (.type "type")) (h4 : PySem.W.subIn K (.ref C) (.ref B) = some b) : PySem.W.exmOne K (.ref C) (.ref B) = some b := PySem.W.exm_ref h1 hd ht h4
theorem all1 {α : Type} {P : α → Prop} {a : α} (h : P a) : ∀ x ∈ [a], P x := fun x hx => by rw [List.mem_singleton] at hx; subst hx; exact h
theorem xfC_of (e : ExcC K C) : XfC K C := ⟨e.hg, e.hk, e.hs, e.hd⟩
theorem oexC_mk {nm q : Str} {N : Addr} {bs bm : List Value} {sn : List Str} {sub : List Value} {ab : Bool} {col : Option Bool} {dd : Option Addr} {k0 k1 k2 k3 k5 : Option Value} (l : K.lookup C = some (PySem.excClassObj nm q C N bs bm true sn sub ab col dd k0 k1 k2 k3 k5 "ValueError.__new__")) (r : PySem.HandSPX.refsVE bm = true)
    (sa : PySem.W.findIn K (.ref C) "__setattr__" = some (some (.builtin "object.__setattr__"))) (ex : PySem.W.subIn K (.ref C) (.type "BaseException") = some true) (ty : PySem.W.typeIn K (.ref C) = some (.type "type")) (kC : PySem.W.keepIn K (.ref C) = true) : OexC K C :=
  ⟨⟨nm, q, N, bs, bm, sn, sub, ab, col, dd, k0, k1, k2, k3, k5, l, r⟩, sa, ex, ty, kC⟩
end
abbrev spX (K : PySem.W.Frag) (n : Nat) (g : List U → Store → Rs U) : Sp := spD K (XSd K) n g
/-- a base's name in an own __init__ -/
structure BaseF (K : PySem.W.Frag) (B : Addr) : Prop where
  g1 : PySem.W.specialIn K (.ref B) "__getattribute__" = some (some (.builtin "type.__getattribute__"))
  g3 : PySem.W.readsIn K B (.type "type") = true
  vV : PySem.W.findCls K (.ref B) (.type "type") "__init__" = some (.val (.builtin "ValueError.__init__"))
theorem exfn_mk {P : Program} {w : World} {K : PySem.W.Frag} {mg : Str → Option Value} {base : Heap} {x qual : Str} {s : Stmt} {C fI : Addr} {ns : List Str} {od an : Option Addr} {sl : Array (Option Value)} {oc kV dc pm cd ct : Value} {ps : List Str} (c : ClsF K mg x C) (T : OexC K C)
    (ai : PySem.W.findIn K (.ref C) "__init__" = some (some (.ref fI))) (ti : PySem.W.typeIn K (.ref fI) = some (.type "function")) (li : K.lookup fI = some ⟨oc, od, .func (PySem.W.fnOf "__init__" qual (defArgs s) (defBody s) (defScope s) .none kV dc pm an cd ct), sl⟩) (ci : PySem.W.codeIn K cd qual = true) (ki : PySem.W.keepIn K (.ref fI) = true)
    (hb : ∀ (us : List Value), us.length = ps.length → bindArgs (PySem.W.fnOf "__init__" qual (defArgs s) (defBody s) (defScope s) .none kV dc pm an cd ct) ⟨us, []⟩ = Pure.pure (ps.zip us))
    (B : ∀ f fd, Fun K "__init__" qual s f fd → FnOk P w K mg base (L2.CX P w) 1 f fd ps (spI C ns)) : ExFn P w K mg base x 1 ns := by
  have F := fun_mk (st := s) li ci ki
  exact ⟨C, fI, _, ps, c.at_, c.mg, T, ai, ti, .all hb, B fI _ F⟩
@[simp] theorem sTryK_ap (t : List (Str × Bool)) (i j : Nat) (b : DS) (env : Env) (st : Store) : sTryK t i j b env st = match b env st with
  | .ex c fs env' st' => match tabB t c with
    | some true => .nx (((env'.set i (.val (.ref st'.length))).set j (.val (.ref st'.length))).set i .un) (st' ++ [.ins c fs])
    | some false => .ex c fs env' st'
    | none => .bad
  | o => o := (rfl)
@[simp] theorem isX_ap (t : List (Str × Bool)) (f : DE) (env : Env) (st : Store) : isX t f env st = (f env st).bind fun u st1 => match u with
  | .ref n => match st1[n]? with
    | some (.ins c _) => match tabB t c with
      | some b => .ok (.bl b) st1
      | none => .bad
    | _ => .bad
  | _ => .bad := (rfl)
@[simp] theorem attrX_ap (cs : List Str) (n : Str) (f : DE) (env : Env) (st : Store) : attrX cs n f env st = (f env st).bind fun u st1 => match u with
  | .ref k => match st1[k]? with
    | some (.ins c fs) => if c ∈ cs then match fs.lookup n with
      | some v => .ok v st1
      | none => .bad else .bad
    | _ => .bad
  | _ => .bad := (rfl)
@[simp] theorem sRaise_ap (c : Str) (ns : List Str) (fa : DA) (env : Env) (st : Store) : sRaise c ns fa env st = (fa env st).out env fun us st1 => if us.length = ns.length ∧ us.all flatU = true then .ex c (ns.zip us).reverse env st1 else .bad := (rfl)
end D
namespace D
open PySem L2
def sRaise0 (c : Str) : DS := fun env st => .ex c [] env st
@[simp] theorem sRaise0_ap (c : Str) (env : Env) (st : Store) : sRaise0 c env st = .ex c [] env st := (rfl)
end D
namespace D
open PySem L2
section
variable {K : PySem.W.Frag} {F G : Addr → Prop} {io : List Addr} {st : Store} {env : Env} {sg : L2.St} {H : Hp}
theorem Ok.alloc (ok : Ok K G io st H) {a : Addr} {o : HO} {ob : Ob} (na : H a = none) (hx : NX o) (new : ObRep K (Wf G (io ++ [a])) (io ++ [a]) (upd H a o) a ob) :
    Ok K G (io ++ [a]) (st ++ [ob]) (upd H a o) ∧ Ext io H (io ++ [a]) (upd H a o) := by
  have nW : ¬ Wf G io a := ok.fresh na
  have s : Same H (upd H a o) := same_upd na
  have ex : Ext io H (io ++ [a]) (upd H a o) := ⟨⟨[a], rfl, fun b hb => by rw [List.mem_singleton] at hb; rw [hb]; exact na⟩, fun b u _ h => s b u h, fun b u h => ⟨u, s b u h⟩⟩
  refine ⟨?_, ex⟩
  refine ⟨?_, fun b hb z => ?_, fun b hb => ?_, by simp [ok.len], fun n ob' b e1 e2 => ?_⟩
  · rw [List.nodup_append]
    refine ⟨ok.nd, by simp, fun x hx y hy e => ?_⟩
    rw [List.mem_singleton] at hy
    subst hy; subst e
    exact nW (.inr hx)
  · rcases List.mem_append.mp hb with h | h
    · exact ok.dj b h z
    · rw [List.mem_singleton] at h; subst h
      exact nW (.inl z)
  · by_cases e : b = a
    · subst e; exact ⟨o, upd_same, hx⟩
    · have hb' : Wf G io b := hb.imp id fun z => by
        rcases List.mem_append.mp z with h | h
        · exact h
        · exact (e (List.mem_singleton.mp h)).elim
      obtain ⟨u, q, x⟩ := ok.trk b hb'
      exact ⟨u, s b u q, x⟩
  · by_cases hn : n < io.length
    · rw [List.getElem?_append_left hn] at e2
      rw [List.getElem?_append_left (by rw [ok.len]; exact hn)] at e1
      exact (ok.obs n ob' b e1 e2).mono ex.mono (fun u q => s b u q) fun dd ws q => s _ _ q
    · rw [List.getElem?_append_right (Nat.le_of_not_lt hn)] at e2
      rw [List.getElem?_append_right (by rw [ok.len]; exact Nat.le_of_not_lt hn)] at e1
      rw [ok.len] at e1
      have h0 : n - io.length = 0 := by
        cases h : n - io.length with
        | zero => rfl
        | succ k => rw [h] at e2; simp at e2
      rw [h0] at e1 e2
      simp only [List.getElem?_cons_zero, Option.some.injEq] at e1 e2
      subst e1; subst e2
      exact new
/-- a list of the store turns -/
theorem Fr.turnRef (f : Fr K F io st env sg H) {n : Nat} {us us' : List U} {vs' : List V} {a : Addr} (h1 : st[n]? = some (.lst us)) (h2 : io[n]? = some a) (r : Reps K (Wf (Gs F env sg) io) io H us' vs') :
    Fr K F io (st.set n (.lst us')) env sg (upd H a (.lst vs')) ∧ ExtO io H (Ow env sg) io (upd H a (.lst vs')) (Ow env sg) := by
  have ha : a ∈ io := List.mem_of_getElem? h2
  have hn : n < st.length := (List.getElem?_eq_some_iff.mp h1).1
  have keep : ∀ b o, b ≠ a → H b = some o → (upd H a (.lst vs')) b = some o := fun b o q h => by rw [upd_ne q]; exact h
  have ex : ExtO io H (Ow env sg) io (upd H a (.lst vs')) (Ow env sg) := ⟨⟨[], by simp, fun _ h => nomatch h⟩, fun b o q _ h => keep b o (fun e => q (e ▸ ha)) h, fun b o h => by
    by_cases e : b = a
    · subst e; exact ⟨_, upd_same⟩
    · exact ⟨o, keep b o e h⟩, fun b h => .inl h⟩
  have m := ex.mono (F := F)
  have nG : ∀ b, Gs F env sg b → b ≠ a := fun b hb e => f.ok.dj a ha (e ▸ hb)
  have nxa : ∀ (dd : Addr) (ws : List (Str × V)), H dd = some (.xd ws) → dd ≠ a := fun dd ws z e => by
    subst e
    obtain ⟨o, e1, x⟩ := f.ok.trk dd (.inr ha)
    rw [z] at e1; cases e1; exact x ws rfl
  refine ⟨⟨⟨f.ok.nd, f.ok.dj, fun b h => ?_, by simp [f.ok.len], fun k ob b e1 e2 => ?_⟩, ⟨f.er.len, fun j sl o g1 g2 => ?_⟩, f.nF, f.dd⟩, ex⟩
  · obtain ⟨o, e, x⟩ := f.ok.trk b h
    by_cases hb : b = a
    · subst hb; exact ⟨_, upd_same, nx_lst⟩
    · exact ⟨o, keep b o hb e, x⟩
  · by_cases hk : n = k
    · subst hk
      rw [List.getElem?_set_self hn] at e1
      rw [h2] at e2
      cases e1; cases e2
      exact ⟨vs', upd_same, r.mono m⟩
    · rw [List.getElem?_set_ne hk] at e1
      have nb : b ≠ a := fun e => by
        subst e
        exact hk ((List.getElem?_inj (List.getElem?_eq_some_iff.mp h2).1 f.ok.nd).mp (h2.trans e2.symm))
      exact (f.ok.obs k ob b e1 e2).mono m (fun u q => keep b u nb q) fun dd ws q => keep dd _ (nxa dd ws q) q
  · have q := f.er.sl j sl o g1 g2
    cases sl with
    | un => trivial
    | val u' => obtain ⟨v', q1, q2⟩ := q; exact ⟨v', q1, q2.mono m⟩
    | own w =>
      obtain ⟨b, vs1, q1, q2, q3, q4⟩ := q
      exact ⟨b, vs1, q1, q2, keep _ _ (nG b q2) q3, q4.mono m⟩
end
/-- a new list, of the store -/
def refL (f : DL) : DE := fun env st => (f env st).bind fun us st1 => .ok (.ref st1.length) (st1 ++ [.lst us])
def ixR (f g : DE) : DE := fun env st => (f env st).bind fun u st1 => (g env st1).bind fun v st2 => match u, v with
  | .ref n, .int i => match st2[n]? with
    | some (.lst us) => Rs.of (atI us i) st2
    | _ => .bad
  | _, _ => .bad
def sIxR (f g e : DE) : DS := fun env st => (e env st).out env fun v st1 => (f env st1).out env fun u st2 => (g env st2).out env fun k st3 => match u, k with
  | .ref n, .int i => match st3[n]? with
    | some (.lst us) => match ixN us.length i with
      | some j => .nx env (st3.set n (.lst (us.set j v)))
      | none => .bad
    | _ => .bad
  | _, _ => .bad
theorem Reps.set : ∀ {K : PySem.W.Frag} {W : Addr → Prop} {io : List Addr} {H : Hp} {us : List U} {vs : List V} {u : U} {v : V} (j : Nat), Reps K W io H us vs → Rep K W io H u v → Reps K W io H (us.set j u) (vs.set j v)
  | _, _, _, _, [], vs, u, v, j, h, r => by rw [h.isNil]; simpa using Reps.nil
  | _, _, _, _, w :: us, vs, u, v, 0, h, r => by
    obtain ⟨x, t, rfl, h1, h2⟩ := h.uncons
    exact .cons r h2
  | _, _, _, _, w :: us, vs, u, v, j + 1, h, r => by
    obtain ⟨x, t, rfl, h1, h2⟩ := h.uncons
    exact .cons h1 (Reps.set j h2 r)
theorem Reps.atI' {K : PySem.W.Frag} {W : Addr → Prop} {io : List Addr} {H : Hp} {us : List U} {vs : List V} {i : Int} {u : U} (h : Reps K W io H us vs) (e : atI us i = some u) : ∃ v, atI vs i = some v ∧ Rep K W io H u v := by
  unfold atI at e ⊢
  rw [← h.length]
  cases q : ixN us.length i with
  | none => rw [q] at e; cases e
  | some j =>
    rw [q] at e
    exact h.get e
theorem ref_list {K : PySem.W.Frag} {G : Addr → Prop} {io : List Addr} {st : Store} {H : Hp} {n : Nat} {us : List U} {v : V} (ok : Ok K G io st H) (h : st[n]? = some (.lst us)) (r : Rep K (Wf G io) io H (.ref n) v) : ∃ a vs, v = .ref a ∧ io[n]? = some a ∧ H a = some (.lst vs) ∧ Reps K (Wf G io) io H us vs := by
  unfold Rep at r
  obtain ⟨a, e1, rfl⟩ := r
  obtain ⟨vs, q1, q2⟩ := ok.obs n _ a h e1
  exact ⟨a, vs, rfl, e1, q1, q2⟩
section
variable {X : Cx} {xs : XS} {wx : WX} {pos : Pos}
theorem d_refL {e : Expr} {f : DL} (h : PE X e (tDL X.K xs wx f)) : PE X e (tD X.K xs wx (refL f)) := pe_imp h fun sg H Q q => by
  obtain ⟨G, io, st, env, ok, er, w⟩ := q
  refine ⟨G, io, st, env, ok, er, w.bind.impR fun st1 io1 H1 us ok1 e1 w1 vs a rvs na => ?_⟩
  have sm : Same H1 (upd H1 a (.lst vs)) := same_upd na
  have m : Mono G io1 H1 G (io1 ++ [a]) (upd H1 a (.lst vs)) := ⟨⟨[a], rfl⟩, fun b o n h => ⟨sm b o h, fun z => z.elim (fun y => n (.inl y)) fun y => by
    rcases List.mem_append.mp y with y | y
    · exact n (.inr y)
    · rw [List.mem_singleton] at y
      subst y
      rw [na] at h; cases h⟩⟩
  obtain ⟨ok2, e2⟩ := ok1.alloc (o := .lst vs) (ob := .lst us) na nx_lst ⟨vs, upd_same, rvs.mono m⟩
  refine w1 (io1 ++ [a]) _ ok2 e2 (.ref a) ?_
  unfold Rep
  refine ⟨a, ?_, rfl⟩
  rw [ok1.len, List.getElem?_append_right (Nat.le_refl _)]
  simp
theorem d_ixR {a b : Expr} {f g : DE} (ha : PE X a (tD X.K xs wx f)) (hb : PE X b (tD X.K xs wx g)) (hs : PlainIx b) : PE X (.Subscript a b pos) (tD X.K xs wx (ixR f g)) := pe_imp (pe_ix ix_list ha hb hs) fun sg H Q h => by
  obtain ⟨G, io, st, env, ok, er, w⟩ := h
  refine ⟨G, io, st, env, ok, er, w.bind.impR fun st1 io1 H1 u ok1 e1 w1 v rv => ?_⟩
  refine ⟨G, io1, st1, env, ok1, er.ext ok.dj e1, w1.bind.impR fun st2 io2 H2 u2 ok2 e2 w2 v2 rv2 => ?_⟩
  split at w2
  · rename_i n i
    split at w2
    · rename_i us hu
      obtain ⟨w', hw, w3⟩ := w2.pure
      obtain ⟨a, vs, rfl, q1, q2, q3⟩ := ref_list ok2 hu (rv.ext e2)
      have e : v2 = .int i := by unfold Rep at rv2; exact rv2
      subst e
      obtain ⟨y, hy, ry⟩ := q3.atI' hw
      exact ⟨a, vs, i, y, rfl, rfl, .inl (.inl q2), hy, w3.here ok2 y ry⟩
    · exact w2.elim
  · exact w2.elim
theorem s_ixR {o i e : Expr} {f g h : DE} {pos' : Pos} (ho : PE X o (tD X.K xs wx f)) (hi : PE X i (tD X.K xs wx g)) (he : PE X e (tD X.K xs wx h)) (hs : swapsWithSole [.Subscript o i pos'] e pos.line X.env = Pure.pure false := by rfl) (hw : swappedStores [.Subscript o i pos'] e X.env = Pure.pure none := by rfl)
    (h1 : (assignEach [.Subscript o i pos'] X.env).map (·.2) = [assign (.Subscript o i pos') X.env] := by rfl)
    (ha : ∀ v, assign (.Subscript o i pos') X.env v = (do
      let ov ← holding [v] (eval o X.env)
      let iv ← holding [v, ov] (eval i X.env)
      standAt pos'
      holding [v, ov, iv] (setItem ov iv v)
      release [v, ov, iv] []) := by intro _; rfl) : PS X (.Assign [.Subscript o i pos'] e pos) (tDS X.K xs wx (sIxR f g h)) :=
  ps_imp (ps_asg he (pg_sub ho hi set_list ha) hs hw h1) fun D sg H q => by
    obtain ⟨F, io, st, env, fr, w⟩ := q
    refine ⟨Gs F env sg, io, st, env, fr.ok, fr.er, (WantsS.expr fr w).impR fun st1 io1 H1 v ok1 e1 z x rx => ?_⟩
    refine ⟨Gs F env sg, io1, st1, env, z.1.ok, z.1.er, (WantsS.expr z.1 z.2).impR fun st2 io2 H2 u ok2 e2 z2 y ry => ?_⟩
    refine ⟨Gs F env sg, io2, st2, env, z2.1.ok, z2.1.er, (WantsS.expr z2.1 z2.2).impR fun st3 io3 H3 k ok3 e3 z3 t rt => ?_⟩
    have z4 := z3.2
    split at z4
    · rename_i n i
      split at z4
      · rename_i us hu
        split at z4
        · rename_i j hj
          obtain ⟨a, vs, rfl, q1, q2, q3⟩ := ref_list ok3 hu (ry.ext e3)
          have et : t = .int i := by unfold Rep at rt; exact rt
          subst et
          refine ⟨a, vs, i, j, rfl, rfl, q2, by rw [← q3.length]; exact hj, ?_⟩
          obtain ⟨f4, e4⟩ := z3.1.turnRef hu q1 (q3.set j ((rx.ext e2).ext e3))
          exact z4 _ _ _ f4 e4
        · exact z4.elim
      · exact z4.elim
    · exact z4.elim
end
@[simp] theorem refL_ap (f : DL) (env : Env) (st : Store) : refL f env st = (f env st).bind fun us st1 => .ok (.ref st1.length) (st1 ++ [.lst us]) := (rfl)
@[simp] theorem ixR_ap (f g : DE) (env : Env) (st : Store) : ixR f g env st = (f env st).bind fun u st1 => (g env st1).bind fun v st2 => match u, v with
  | .ref n, .int i => match st2[n]? with
    | some (.lst us) => Rs.of (atI us i) st2
    | _ => .bad
  | _, _ => .bad := (rfl)
@[simp] theorem sIxR_ap (f g e : DE) (env : Env) (st : Store) : sIxR f g e env st = (e env st).out env fun v st1 => (f env st1).out env fun u st2 => (g env st2).out env fun k st3 => match u, k with
  | .ref n, .int i => match st3[n]? with
    | some (.lst us) => match ixN us.length i with
      | some j => .nx env (st3.set n (.lst (us.set j v)))
      | none => .bad
    | _ => .bad
  | _, _ => .bad := (rfl)
end D
namespace D
open PySem L2
def cut3 (u : U) (lo hi : Option Int) : Option (List U) := match u with
  | .lst us => some (cutL us lo hi)
  | .scr ns => some ((cutL ns lo hi).map U.int)
  | _ => none
def slL (f : DE) (a b : DO) : DL := fun env st => (f env st).bind fun u st1 => (a env st1).bind fun l st2 => (b env st2).bind fun h st3 => Rs.of (cut3 u l h) st3
section
variable {X : Cx} {xs : XS} {wx : WX} {pos : Pos}
theorem l_slice {e : Expr} {lo hi : Option Expr} {p2 : Pos} {f : DE} {a b : DO} (he : PE X e (tD X.K xs wx f)) (hl : PO X lo (tDO X.K xs wx a)) (hu : PO X hi (tDO X.K xs wx b)) : PE X (.Subscript e (.Slice lo hi none p2) pos) (tDL X.K xs wx (slL f a b)) :=
  pe_imp (pe_slice sl_list he hl hu) fun sg H Q h => by
    obtain ⟨G, io, st, env, ok, er, w⟩ := h
    refine ⟨G, io, st, env, ok, er, w.bind.impR fun st1 io1 H1 u ok1 e1 w1 v rv => ?_⟩
    refine ⟨G, io1, st1, env, ok1, er.ext ok.dj e1, w1.bind.impR fun st2 io2 H2 l ok2 e2 w2 => ?_⟩
    refine ⟨G, io2, st2, env, ok2, (er.ext ok.dj e1).ext ok1.dj e2, w2.bind.impR fun st3 io3 H3 h ok3 e3 w3 => ?_⟩
    obtain ⟨r, hr, w4⟩ := w3.pure
    have r1 := (rv.ext e2).ext e3
    unfold cut3 at hr
    split at hr
    · cases hr
      obtain ⟨a, vs, rfl, l, rs⟩ := r1.lst'
      refine ⟨a, vs, rfl, l.sq, fun p hp => w4.here ok3 _ p ?_ hp⟩
      unfold cutL cutV
      rw [rs.length]
      exact (rs.drop _).take _
    · cases hr
      unfold Rep at r1
      obtain ⟨a, rfl, l⟩ := r1
      refine ⟨a, _, rfl, l.sq, fun p hp => w4.here ok3 _ p ?_ hp⟩
      unfold cutL cutV
      rw [List.length_map, List.map_take, List.map_drop]
      exact ((Reps.ints _).drop _).take _
    · cases hr
end
@[simp] theorem slL_ap (f : DE) (a b : DO) (env : Env) (st : Store) : slL f a b env st = (f env st).bind fun u st1 => (a env st1).bind fun l st2 => (b env st2).bind fun h st3 => Rs.of (cut3 u l h) st3 := (rfl)
@[simp] theorem cut3_lst (us : List U) (lo hi : Option Int) : cut3 (.lst us) lo hi = some (cutL us lo hi) := (rfl)
@[simp] theorem cut3_scr (us : List Int) (lo hi : Option Int) : cut3 (.scr us) lo hi = some ((cutL us lo hi).map U.int) := (rfl)
end D
namespace D
open PySem L2
def slR (f : DE) (a b : DO) : DL := fun env st => (f env st).bind fun u st1 => (a env st1).bind fun l st2 => (b env st2).bind fun h st3 => match u with
  | .ref n => match st3[n]? with
    | some (.lst us) => .ok (cutL us l h) st3
    | _ => .bad
  | _ => .bad
@[simp] theorem slR_ap (f : DE) (a b : DO) (env : Env) (st : Store) : slR f a b env st = (f env st).bind fun u st1 => (a env st1).bind fun l st2 => (b env st2).bind fun h st3 => match u with
  | .ref n => match st3[n]? with
    | some (.lst us) => .ok (cutL us l h) st3
    | _ => .bad
  | _ => .bad := (rfl)
end D
namespace D
open PySem L2
def sRetR (i : Nat) : DS := fun env st => match env[i]? with
  | some (.own us) => .rt (.ref st.length) (st ++ [.lst us])
  | _ => .bad
@[simp] theorem sRetR_ap (i : Nat) (env : Env) (st : Store) : sRetR i env st = match env[i]? with
  | some (.own us) => .rt (.ref st.length) (st ++ [.lst us])
  | _ => .bad := (rfl)
end D
namespace D
open PySem L2
def txtsOf : List U → Option (List Str)
  | [] => some []
  | .str x :: us => (txtsOf us).map (x :: ·)
  | _ :: _ => none
theorem txtsOf_rep {K : PySem.W.Frag} {W : Addr → Prop} {io : List Addr} {H : Hp} : ∀ {us : List U} {ws : List Str} {vs : List V}, txtsOf us = some ws → Reps K W io H us vs → vs = ws.map V.str
  | [], ws, vs, e, r => by cases e; rw [r.isNil]; rfl
  | u :: us, ws, vs, e, r => by
    obtain ⟨v, t, rfl, h1, h2⟩ := r.uncons
    cases u with
    | str x =>
      obtain ⟨ws', e', rfl⟩ := Option.map_eq_some_iff.mp e
      rw [h1.str', txtsOf_rep e' h2]; rfl
    | _ => cases e
def idx2 : U → U → Option U
  | .lst us, .str x => (txtsOf us).bind fun ws => if x ∈ ws ∧ ws.length ≤ 1000 then some (.int (ws.idxOf x : Nat)) else none
  | _, _ => none
def idxD (f g : DE) : DE := fun env st => (f env st).bind fun u st1 => match u with
  | .lst us => (g env st1).bind fun v st2 => Rs.of (idx2 (.lst us) v) st2
  | _ => .bad
section
variable {X : Cx} {xs : XS} {wx : WX} {pos : Pos}
theorem d_index {o e : Expr} {f g : DE} {apos : Pos} (ho : PE X o (tD X.K xs wx f)) (he : PE X e (tD X.K xs wx g)) (hbase : attributeBase o "index" X.env (eval o X.env) = eval o X.env := by rfl)
    (hfew : ((backTo pos (starEach [e] X.env)).all (fun x => !x.1) && (backToKw pos (keywordEach [] X.env)).all (fun x => x.1.isSome) && decide ([e].length + ([] : List Keyword).length + (if ([] : List Keyword).isEmpty then 0 else 1) < 30)) = true := by rfl)
    (hline : (apos.endLine == pos.line) = true := by rfl) (hs : starEach (e :: []) X.env = (false, eval e X.env) :: starEach [] X.env := by rfl) (hplain : (backTo pos (starEach [] X.env)).any (·.1) = false := by rfl) :
    PE X (.Call (.Attribute o "index" apos) [e] [] pos) (tD X.K xs wx (idxD f g)) :=
  pe_imp (pe_bm PySem.F.plainAttrs_list PySem.F.slot_list_index PySem.F.type_list_index mt_index ho (pa_cons he pa_nil hs) hbase hfew hline hs hplain) fun sg H Q h => by
    obtain ⟨G, io, st, env, ok, er, w⟩ := h
    refine ⟨G, io, st, env, ok, er, w.bind.impR fun st1 io1 H1 u ok1 e1 w1 v rv => ?_⟩
    cases u with
    | lst us =>
      obtain ⟨a, vs, rfl, l, rs⟩ := rv.lst'
      refine ⟨.inl ⟨rfl, vs, l.sq⟩, G, io1, st1, env, ok1, er.ext ok.dj e1, (Wants.bind w1).impR fun st2 io2 H2 y ok2 e2 w2 x rx => ?_⟩
      obtain ⟨r, hr, w3⟩ := w2.pure
      cases y with
      | str x' =>
        have hr : ((txtsOf us).bind fun ws => if x' ∈ ws ∧ ws.length ≤ 1000 then some (U.int (ws.idxOf x' : Nat)) else none) = some r := hr
        cases ht : txtsOf us with
        | none => rw [ht] at hr; cases hr
        | some ws =>
          rw [ht] at hr
          simp only [Option.bind_some] at hr
          split at hr
          · rename_i hm
            cases hr
            have ev := txtsOf_rep ht (rs.ext e2)
            have ex := rx.str'
            subst ev
            subst ex
            have hl : ws.idxOf x' < ws.length := List.idxOf_lt_length_iff.mpr hm.1
            refine ⟨a, ws.map V.str, .str x', ws.idxOf x', .str ws[ws.idxOf x'], rfl, rfl, ?_, rfl, ?_, ?_, ?_, fun m z hm' hz => ?_, w3.here ok2 _ (rInt _)⟩
            · obtain ⟨a', vs', ea, la, ra⟩ := (rv.ext e2).lst'
              cases ea
              have := txtsOf_rep ht ra
              subst this
              exact la.sq
            · rw [List.all_eq_true]
              intro z hz
              obtain ⟨w, _, rfl⟩ := List.mem_map.mp hz
              rfl
            · rw [List.getElem?_map, List.getElem?_eq_getElem hl]; rfl
            · show (ws[ws.idxOf x'] == x') = true
              rw [List.getElem_idxOf hl]; simp
            · rw [List.getElem?_map] at hz
              obtain ⟨w, hw, rfl⟩ := Option.map_eq_some_iff.mp hz
              show (w == x') = false
              have hml : m < ws.length := by omega
              rw [List.getElem?_eq_getElem hml] at hw
              cases hw
              have hm2 : m < ws.findIdx (· == x') := hm'
              have := List.not_of_lt_findIdx hm2
              simpa using this
          · cases hr
      | _ => cases hr
    | _ => exact w1.elim
end
end D
namespace D
open PySem L2
def tupSN : List U → Option U
  | [.str x] => if x.cps.size ≤ sizeLine then some (.tup (x.cps.toList.map fun c => U.str ⟨#[c]⟩)) else none
  | _ => none
@[simp] theorem tupSN_ap (x : Str) : tupSN [.str x] = if x.cps.size ≤ 16777216 then some (.tup (x.cps.toList.map fun c => U.str ⟨#[c]⟩)) else none := by rw [← sizeLine_val]; rfl
end D
namespace D
open PySem L2
def join2 (a : Str) (u : U) : Option U := (txts u).bind fun ys => if (ys.map (·.length)).sum + ys.length * a.length ≤ 16777216 then some (.str (Txt.join a ys)) else none
def joinD (f g : DE) : DE := fun env st => (f env st).bind fun u st1 => match u with
  | .str a => (g env st1).bind fun v st2 => Rs.of (join2 a v) st2
  | _ => .bad
/-- sorted(texts) -/
def sortTxt (u : U) : Option (List U) := (match u with
  | .lst us => strsU us
  | _ => none).bind fun ys => if ys.length < 64 then some ((sortS ys).map U.str) else none
def lenR (f : DE) : DE := fun env st => (f env st).bind fun u st1 => match u with
  | .ref n => match st1[n]? with
    | some (.lst us) => .ok (.int us.length) st1
    | _ => .bad
  | _ => .bad
def catR (f g : DE) : DL := fun env st => (f env st).bind fun u st1 => (g env st1).bind fun v st2 => match u, v with
  | .ref n, .lst ws => match st2[n]? with
    | some (.lst us) => if us.length + ws.length ≤ sizeLine then .ok (us ++ ws) st2 else .bad
    | _ => .bad
  | _, _ => .bad
def sExtR (f g : DE) : DS := fun env st => (f env st).out env fun u st1 => match u with
  | .ref n => match st1[n]? with
    | some (.lst _) => (g env st1).out env fun v st2 => match st2[n]?, seqU v with
      | some (.lst us), some ws => if us.length + ws.length ≤ sizeLine then .nx env (st2.set n (.lst (us ++ ws))) else .bad
      | _, _ => .bad
    | _ => .bad
  | _ => .bad
mutual
def noRef : U → Bool
  | .ref _ => false
  | .tup us => noRefs us
  | .lst us => noRefs us
  | .dct _ us => noRefs us
  | _ => true
def noRefs : List U → Bool
  | [] => true
  | u :: us => noRef u && noRefs us
end
mutual
theorem Rep.io_any {K : PySem.W.Frag} {W W' : Addr → Prop} {io io' : List Addr} {H : Hp} (hW : ∀ a, W' a → W a) : ∀ (u : U) (v : V), noRef u = true → Rep K W io H u v → Rep K W' io' H u v
  | .non, v, _, h => by unfold Rep at h ⊢; exact h
  | .bl b, v, _, h => by unfold Rep at h ⊢; exact h
  | .int i, v, _, h => by unfold Rep at h ⊢; exact h
  | .str x, v, _, h => by unfold Rep at h ⊢; exact h
  | .ty x, v, _, h => by unfold Rep at h ⊢; exact h
  | .ref x, v, n, h => by unfold noRef at n; cases n
  | .tup us, v, n, h => by
    unfold Rep at h ⊢
    unfold noRef at n
    obtain ⟨a, vs, e, l, r⟩ := h
    refine ⟨a, vs, e, ?_, Reps.io_any hW us vs n r⟩
    unfold LT at l ⊢
    exact l.imp (fun z => ⟨z.1, fun y => z.2 (hW a y)⟩) id
  | .lst us, v, n, h => by
    unfold Rep at h ⊢
    unfold noRef at n
    obtain ⟨a, vs, e, l, r⟩ := h
    refine ⟨a, vs, e, ?_, Reps.io_any hW us vs n r⟩
    unfold LL at l ⊢
    exact ⟨l.1, fun z => l.2 (hW a z)⟩
  | .dct ks us, v, n, h => by
    unfold Rep at h ⊢
    unfold noRef at n
    obtain ⟨a, vs, e, l, r⟩ := h
    refine ⟨a, vs, e, ?_, Reps.io_any hW us vs n r⟩
    unfold LD at l ⊢
    exact ⟨fun z => l.1 (hW a z), l.2⟩
  | .scr ns, v, n, h => by
    unfold Rep at h ⊢
    obtain ⟨a, e, l⟩ := h
    refine ⟨a, e, ?_⟩
    unfold LS at l ⊢
    exact l.imp (fun z => ⟨z.1, fun y => z.2 (hW a y)⟩) id
theorem Reps.io_any {K : PySem.W.Frag} {W W' : Addr → Prop} {io io' : List Addr} {H : Hp} (hW : ∀ a, W' a → W a) : ∀ (us : List U) (vs : List V), noRefs us = true → Reps K W io H us vs → Reps K W' io' H us vs
  | [], vs, _, h => by unfold Reps at h ⊢; exact h
  | u :: us, vs, n, h => by
    unfold Reps at h ⊢
    unfold noRefs at n
    rw [Bool.and_eq_true] at n
    obtain ⟨v, r, e, q, t⟩ := h
    exact ⟨v, r, e, Rep.io_any hW u v n.1 q, Reps.io_any hW us r n.2 t⟩
end
/-- f(x), x a list of the frame's own, lent to a function that keeps nothing of it -/
def appO (g : List U → Store → Rs U) (i : Nat) : DE := fun env st => match ownL env[i]? with
  | some us => match g [.lst us] [] with
    | .ok u [] => if flatU u && noRefs us then .ok u st else .bad
    | _ => .bad
  | none => .bad
def binOL (g : U → U → Option U) (i : Nat) (fb : DE) : DE := fun env st => match ownL env[i]? with
  | some us => (fb env st).bind fun v st1 => Rs.of (flat1 (g (.lst us) v)) st1
  | none => .bad
def sPop (i : Nat) : DS := fun env st => match env[i]? with
  | some (.own us) => if 0 < us.length then .nx (env.set i (.own us.dropLast)) st else .bad
  | _ => .bad
section
variable {X : Cx} {xs : XS} {wx : WX} {pos : Pos}
theorem d_join {o e : Expr} {f g : DE} {apos : Pos} (ho : PE X o (tD X.K xs wx f)) (he : PE X e (tD X.K xs wx g)) (hs : starEach [e] X.env = [(false, eval e X.env)] := by rfl) (hbase : attributeBase o "join" X.env (eval o X.env) = eval o X.env := by rfl) (hline : (apos.endLine == pos.line) = true := by rfl) :
    PE X (.Call (.Attribute o "join" apos) [e] [] pos) (tD X.K xs wx (joinD f g)) := pe_imp (pe_join ho he hs hbase hline) fun sg H Q h => by
  obtain ⟨G, io, st, env, ok, er, w⟩ := h
  refine ⟨G, io, st, env, ok, er, w.bind.impR fun st1 io1 H1 u ok1 e1 w1 v rv => ?_⟩
  cases u with
  | str a =>
    have ev := rv.str'
    subst ev
    refine ⟨⟨a, rfl⟩, G, io1, st1, env, ok1, er.ext ok.dj e1, (Wants.bind w1).impR fun st2 io2 H2 u2 ok2 e2 w2 v2 rv2 => ?_⟩
    obtain ⟨r, hr, w3⟩ := w2.pure
    unfold join2 at hr
    rw [Option.bind_eq_some_iff] at hr
    obtain ⟨ys, hy, hr⟩ := hr
    split at hr
    · rename_i hz
      cases hr
      obtain ⟨l, rfl, sq⟩ := txts_rep rv2 hy
      exact ⟨a, l, ys, rfl, rfl, sq, hz, w3.here ok2 _ (rStr _)⟩
    · cases hr
  | _ => exact w1.elim
theorem l_sorted {e : Expr} {p : Pos} {f : DE} (hg : Gl X "sorted") (hm : X.mg "sorted" = none) (he : PE X e (tD X.K xs wx f)) (hs : starEach [e] X.env = (false, eval e X.env) :: starEach [] X.env := by rfl) :
    PE X (.Call (.Name "sorted" p) [e] [] pos) (tDL X.K xs wx (itE sortTxt f)) := by
  refine pe_imp (pe_callB (pos := pos) (p := p) cr_sortedS hg hm bt_sorted (pa_cons he pa_nil hs) (by decide) (by decide) hs rfl) fun sg H Q h => ?_
  obtain ⟨G, io, st, env, ok, er, w⟩ := h
  refine ⟨G, io, st, env, ok, er, w.bind.impR fun st1 io1 H1 u ok1 e1 w1 v rv => ?_⟩
  obtain ⟨ws, hu, w2⟩ := w1.pure
  unfold sortTxt at hu
  rw [Option.bind_eq_some_iff] at hu
  obtain ⟨ys, hy, hu⟩ := hu
  split at hu
  · rename_i hz
    cases hu
    cases u with
    | lst us =>
      obtain ⟨l, vs, rfl, ll, rr⟩ := rv.lst'
      have hy : strsU us = some ys := hy
      rw [strs_eq hy] at rr
      rw [Reps.ofStrs rr] at ll
      refine ⟨l, ys, rfl, ll.sq, hz, fun zs q pm hs hq => ?_⟩
      rw [sort_unique hs pm]
      exact w2.here ok1 _ q (Reps.strs _) hq
    | _ => cases hy
  · cases hu
theorem d_lenR {e : Expr} {p : Pos} {f : DE} (hg : Gl X "len") (hm : X.mg "len" = none) (he : PE X e (tD X.K xs wx f)) (hs : starEach [e] X.env = (false, eval e X.env) :: starEach [] X.env := by rfl) :
    PE X (.Call (.Name "len" p) [e] [] pos) (tD X.K xs wx (lenR f)) := by
  refine pe_imp (pe_callB (pos := pos) (p := p) call_len_seq hg hm bt_len (pa_cons he pa_nil hs) (by decide) (by decide) hs rfl) fun sg H Q h => ?_
  obtain ⟨G, io, st, env, ok, er, w⟩ := h
  refine ⟨G, io, st, env, ok, er, w.bind.impR fun st1 io1 H1 u ok1 e1 w1 v rv => ?_⟩
  cases u with
  | ref n =>
    simp only at w1
    split at w1
    · rename_i us hus
      obtain ⟨a, vs, rfl, q1, q2, rs⟩ := ref_list ok1 hus rv
      refine ⟨a, vs, rfl, .inl (.inl (.inl q2)), ?_⟩
      rw [← rs.length]
      exact Wants.here (a := U.int (us.length : Nat)) w1 ok1 _ (rInt _)
    · exact w1.elim
  | _ => exact w1.elim
theorem c_str : CallR X (.type "str") (PN X.K strN) := by
  intro pins s sg H vs us Q I r h
  obtain ⟨G, io, st, ws, u, ok, rs, e, q⟩ := h
  unfold strN at e
  split at e
  · split at e
    · rename_i hz
      cases e
      obtain ⟨v, rfl, rv⟩ := rs.one
      have e1 := rv.int'; subst e1
      exact call_str_int pins s sg H _ us Q I r ⟨_, rfl, hz, q _ H (Same.refl H) (rStr _)⟩
    · cases e
  · cases e
    obtain ⟨v, rfl, rv⟩ := rs.one
    have e1 := rv.str'; subst e1
    exact SkE.call_str_str pins s sg H _ us Q I r ⟨_, rfl, q _ H (Same.refl H) (rStr _)⟩
  · cases e
end
@[simp] theorem joinD_ap (f g : DE) (env : Env) (st : Store) : joinD f g env st = (f env st).bind fun u st1 => match u with
  | .str a => (g env st1).bind fun v st2 => Rs.of (join2 a v) st2
  | _ => .bad := (rfl)
@[simp] theorem lenR_ap (f : DE) (env : Env) (st : Store) : lenR f env st = (f env st).bind fun u st1 => match u with
  | .ref n => match st1[n]? with
    | some (.lst us) => .ok (.int us.length) st1
    | _ => .bad
  | _ => .bad := (rfl)
@[simp] theorem catR_ap (f g : DE) (env : Env) (st : Store) : catR f g env st = (f env st).bind fun u st1 => (g env st1).bind fun v st2 => match u, v with
  | .ref n, .lst ws => match st2[n]? with
    | some (.lst us) => if us.length + ws.length ≤ sizeLine then .ok (us ++ ws) st2 else .bad
    | _ => .bad
  | _, _ => .bad := (rfl)
@[simp] theorem sExtR_ap (f g : DE) (env : Env) (st : Store) : sExtR f g env st = (f env st).out env fun u st1 => match u with
  | .ref n => match st1[n]? with
    | some (.lst _) => (g env st1).out env fun v st2 => match st2[n]?, seqU v with
      | some (.lst us), some ws => if us.length + ws.length ≤ sizeLine then .nx env (st2.set n (.lst (us ++ ws))) else .bad
      | _, _ => .bad
    | _ => .bad
  | _ => .bad := (rfl)
@[simp] theorem appO_ap (g : List U → Store → Rs U) (i : Nat) (env : Env) (st : Store) : appO g i env st = match ownL env[i]? with
  | some us => match g [.lst us] [] with
    | .ok u [] => if flatU u && noRefs us then .ok u st else .bad
    | _ => .bad
  | none => .bad := (rfl)
@[simp] theorem binOL_ap (g : U → U → Option U) (i : Nat) (fb : DE) (env : Env) (st : Store) : binOL g i fb env st = match ownL env[i]? with
  | some us => (fb env st).bind fun v st1 => Rs.of (flat1 (g (.lst us) v)) st1
  | none => .bad := (rfl)
@[simp] theorem sPop_ap (i : Nat) (env : Env) (st : Store) : sPop i env st = match env[i]? with
  | some (.own us) => if 0 < us.length then .nx (env.set i (.own us.dropLast)) st else .bad
  | _ => .bad := (rfl)
end D
namespace D
open PySem L2
def sIxO (i : Nat) (g e : DE) : DS := fun env st => (e env st).out env fun v st1 => match env[i]? with
  | some (.own us) => (g env st1).out env fun k st2 => match k with
    | .int n => match ixN us.length n with
      | some j => .nx (env.set i (.own (us.set j v))) st2
      | none => .bad
    | _ => .bad
  | _ => .bad
section
variable {X : Cx} {xs : XS} {wx : WX} {pos : Pos}
theorem s_ixO {i : Nat} {x : Str} {p : Pos} {b e : Expr} {g h : DE} {pos' : Pos} (hi : PE X b (tD X.K xs wx g)) (he : PE X e (tD X.K xs wx h)) (hN : X.N[i]? = some x := by rfl) (hv : Vis X.env.scope x := by first | exact Or.inl rfl | exact Or.inr (Or.inl rfl) | exact Or.inr (Or.inr rfl)) (hd : (x == ("__debug__" : Str)) = false := by decide) (hcd : (x == ("__classdict__" : Str)) = false := by decide)
    (hs : swapsWithSole [.Subscript (.Name x p) b pos'] e pos.line X.env = Pure.pure false := by rfl) (hw : swappedStores [.Subscript (.Name x p) b pos'] e X.env = Pure.pure none := by rfl)
    (h1 : (assignEach [.Subscript (.Name x p) b pos'] X.env).map (·.2) = [assign (.Subscript (.Name x p) b pos') X.env] := by rfl)
    (ha : ∀ v, assign (.Subscript (.Name x p) b pos') X.env v = (do
      let ov ← holding [v] (eval (.Name x p) X.env)
      let iv ← holding [v, ov] (eval b X.env)
      standAt pos'
      holding [v, ov, iv] (setItem ov iv v)
      release [v, ov, iv] []) := by intro _; rfl) : PS X (.Assign [.Subscript (.Name x p) b pos'] e pos) (tDS X.K xs wx (sIxO i g h)) :=
  ps_imp (ps_asg he (pg_sub (pe_var (i := i) hN hv hd hcd) hi set_list ha) hs hw h1) fun D sg H q => by
    obtain ⟨F, io, st, env, fr, w⟩ := q
    refine ⟨Gs F env sg, io, st, env, fr.ok, fr.er, (WantsS.expr fr w).impR fun st1 io1 H1 v ok1 e1 z y ry => ?_⟩
    have z1 := z.2
    split at z1
    · rename_i us q
      obtain ⟨a, vs, c1, c2, r⟩ := z.1.slot q
      refine ⟨.ref a, c1, Gs F env sg, io1, st1, env, z.1.ok, z.1.er, (WantsS.expr z.1 z1).impR fun st2 io2 H2 k ok2 e2 z2 t rt => ?_⟩
      have z3 := z2.2
      cases k with
      | int n =>
        simp only at z3
        split at z3
        · rename_i j hj
          obtain ⟨a', vs', c1', c2', r'⟩ := z2.1.slot q
          rw [c1] at c1'; cases c1'
          have et := rt.int'
          subst et
          refine ⟨a, vs', n, j, rfl, rfl, c2', by rw [← r'.length]; exact hj, ?_⟩
          have y' := z2.1.turnOwn q c1 (r'.set j (ry.ext e2))
          exact z3 io2 _ _ y'.1 y'.2
        · exact z3.elim
      | _ => exact z3.elim
    · exact z1.elim
end
@[simp] theorem sIxO_ap (i : Nat) (g e : DE) (env : Env) (st : Store) : sIxO i g e env st = (e env st).out env fun v st1 => match env[i]? with
  | some (.own us) => (g env st1).out env fun k st2 => match k with
    | .int n => match ixN us.length n with
      | some j => .nx (env.set i (.own (us.set j v))) st2
      | none => .bad
    | _ => .bad
  | _ => .bad := (rfl)
end D
namespace D
open PySem L2
theorem nx_ins {C dx : Addr} {fs : List (Str × V)} : NX (.ins C dx fs) := fun _ z => nomatch z
theorem nx_dK {kvs : List (Key × V)} : NX (.dK kvs) := fun _ z => nomatch z
section
variable {K : PySem.W.Frag} {F G : Addr → Prop} {io : List Addr} {st : Store} {env : Env} {sg : L2.St} {H : Hp}
/-- an object of the store turns -/
theorem Fr.turnOb (f : Fr K F io st env sg H) {n : Nat} {ob ob' : Ob} {o' : HO} {a : Addr} (h1 : st[n]? = some ob) (h2 : io[n]? = some a) (hx : NX o')
    (new : Mono (Gs F env sg) io H (Gs F env sg) io (upd H a o') → ObRep K (Wf (Gs F env sg) io) io (upd H a o') a ob') :
    Fr K F io (st.set n ob') env sg (upd H a o') ∧ ExtO io H (Ow env sg) io (upd H a o') (Ow env sg) := by
  have ha : a ∈ io := List.mem_of_getElem? h2
  have hn : n < st.length := (List.getElem?_eq_some_iff.mp h1).1
  have keep : ∀ b o, b ≠ a → H b = some o → (upd H a o') b = some o := fun b o q h => by rw [upd_ne q]; exact h
  have ex : ExtO io H (Ow env sg) io (upd H a o') (Ow env sg) := ⟨⟨[], by simp, fun _ h => nomatch h⟩, fun b o q _ h => keep b o (fun e => q (e ▸ ha)) h, fun b o h => by
    by_cases e : b = a
    · subst e; exact ⟨_, upd_same⟩
    · exact ⟨o, keep b o e h⟩, fun b h => .inl h⟩
  have m := ex.mono (F := F)
  have nG : ∀ b, Gs F env sg b → b ≠ a := fun b hb e => f.ok.dj a ha (e ▸ hb)
  have nxa : ∀ (dd : Addr) (ws : List (Str × V)), H dd = some (.xd ws) → dd ≠ a := fun dd ws z e => by
    subst e
    obtain ⟨o, e1, x⟩ := f.ok.trk dd (.inr ha)
    rw [z] at e1; cases e1; exact x ws rfl
  refine ⟨⟨⟨f.ok.nd, f.ok.dj, fun b h => ?_, by simp [f.ok.len], fun k ob b e1 e2 => ?_⟩, ⟨f.er.len, fun j sl o g1 g2 => ?_⟩, f.nF, f.dd⟩, ex⟩
  · obtain ⟨o, e, x⟩ := f.ok.trk b h
    by_cases hb : b = a
    · subst hb; exact ⟨_, upd_same, hx⟩
    · exact ⟨o, keep b o hb e, x⟩
  · by_cases hk : n = k
    · subst hk
      rw [List.getElem?_set_self hn] at e1
      rw [h2] at e2
      cases e1; cases e2
      exact new m
    · rw [List.getElem?_set_ne hk] at e1
      have nb : b ≠ a := fun e => by
        subst e
        exact hk ((List.getElem?_inj (List.getElem?_eq_some_iff.mp h2).1 f.ok.nd).mp (h2.trans e2.symm))
      exact (f.ok.obs k ob b e1 e2).mono m (fun u q => keep b u nb q) fun dd ws q => keep dd _ (nxa dd ws q) q
  · have q := f.er.sl j sl o g1 g2
    cases sl with
    | un => trivial
    | val u' => obtain ⟨v', q1, q2⟩ := q; exact ⟨v', q1, q2.mono m⟩
    | own w =>
      obtain ⟨b, vs1, q1, q2, q3, q4⟩ := q
      exact ⟨b, vs1, q1, q2, keep _ _ (nG b q2) q3, q4.mono m⟩
/-- fields -/
def putU (x : Str) (v : U) : List (Str × U) → List (Str × U)
  | [] => [(x, v)]
  | (g, y) :: r => if g = x then (g, v) :: r else (g, y) :: putU x v r
def zipF (fs : List (Str × U)) (vs : List V) : List (Str × V) := (fs.map (·.1)).zip vs
theorem look_some {W : Addr → Prop} {x : Str} {u : U} : ∀ {fs : List (Str × U)} {vs : List V}, Reps K W io H (fs.map (·.2)) vs → fs.lookup x = some u → ∃ v, (zipF fs vs).lookup x = some v ∧ Rep K W io H u v
  | [], _, _, h => nomatch h
  | (g, y) :: fs, vs, r, h => by
    obtain ⟨v, t, rfl, r1, r2⟩ := r.uncons
    show ∃ w, List.lookup x ((g, v) :: zipF fs t) = some w ∧ _
    rw [List.lookup_cons] at h ⊢
    cases q : x == g with
    | true => rw [q] at h; simp only at h ⊢; cases h; exact ⟨v, rfl, r1⟩
    | false => rw [q] at h; simp only at h ⊢; exact look_some r2 h
theorem look_none {W : Addr → Prop} {x : Str} : ∀ {fs : List (Str × U)} {vs : List V}, Reps K W io H (fs.map (·.2)) vs → fs.lookup x = none → (zipF fs vs).lookup x = none
  | [], _, _, _ => rfl
  | (g, y) :: fs, vs, r, h => by
    obtain ⟨v, t, rfl, r1, r2⟩ := r.uncons
    show List.lookup x ((g, v) :: zipF fs t) = none
    rw [List.lookup_cons] at h ⊢
    cases q : x == g with
    | true => rw [q] at h; cases h
    | false => rw [q] at h; simp only at h ⊢; exact look_none r2 h
theorem put_zip {W : Addr → Prop} {x : Str} {u : U} {v : V} (ru : Rep K W io H u v) : ∀ {fs : List (Str × U)} {vs : List V}, Reps K W io H (fs.map (·.2)) vs → ∃ vs', putF x v (zipF fs vs) = zipF (putU x u fs) vs' ∧ Reps K W io H ((putU x u fs).map (·.2)) vs'
  | [], vs, r => ⟨[v], rfl, .cons ru .nil⟩
  | (g, y) :: fs, vs, r => by
    obtain ⟨w, t, rfl, r1, r2⟩ := r.uncons
    show ∃ vs', putF x v ((g, w) :: zipF fs t) = zipF (putU x u ((g, y) :: fs)) vs' ∧ _
    unfold putF putU
    by_cases q : g = x
    · rw [if_pos q, if_pos q]; exact ⟨v :: t, rfl, .cons ru r2⟩
    · rw [if_neg q, if_neg q]
      obtain ⟨vs', e, r'⟩ := put_zip ru r2
      exact ⟨w :: vs', by rw [e]; rfl, .cons r1 r'⟩
theorem zipF_len {W : Addr → Prop} {fs : List (Str × U)} {vs : List V} (r : Reps K W io H (fs.map (·.2)) vs) : (zipF fs vs).length = fs.length := by
  have := r.length
  unfold zipF
  rw [List.length_zip, List.length_map]
  rw [List.length_map] at this
  omega
theorem ref_obj {n : Nat} {c : Str} {fs : List (Str × U)} {v : V} (ok : Ok K G io st H) (h : st[n]? = some (.obj c fs)) (r : Rep K (Wf G io) io H (.ref n) v) : ∃ a C dx vs, v = .ref a ∧ io[n]? = some a ∧ clsAt K c = some C ∧ H a = some (.ins C dx (zipF fs vs)) ∧ Reps K (Wf G io) io H (fs.map (·.2)) vs := by
  unfold Rep at r
  obtain ⟨a, e1, rfl⟩ := r
  obtain ⟨C, dx, vs, q1, q2, q3⟩ := ok.obs n _ a h e1
  exact ⟨a, C, dx, vs, rfl, e1, q1, q2, q3⟩
end
/-- the classes cs have no attribute of this name -/
def CsF (K : PySem.W.Frag) (cs : List Str) (x : Str) : Prop := ∀ c ∈ cs, ∀ C, clsAt K c = some C → Cls K C ∧ NoAttr K C x
theorem csf_nil {K : PySem.W.Frag} {x : Str} : CsF K [] x := fun _ h => nomatch h
theorem csf_cons {K : PySem.W.Frag} {c x : Str} {cs : List Str} {C : Addr} (h1 : clsAt K c = some C) (h2 : Cls K C) (h3 : NoAttr K C x) (t : CsF K cs x) : CsF K (c :: cs) x := fun d hd D hD => by
  rcases List.mem_cons.mp hd with rfl | hd
  · rw [h1] at hD; cases hD; exact ⟨h2, h3⟩
  · exact t d hd D hD
/-- o.x -/
def fldD (cs : List Str) (x : Str) (f : DE) : DE := fun env st => (f env st).bind fun u st1 => match u with
  | .ref n => match st1[n]? with
    | some (.obj c fs) => if c ∈ cs then Rs.of (fs.lookup x) st1 else .bad
    | _ => .bad
  | _ => .bad
/-- o.x = e -/
def sFldS (cs : List Str) (x : Str) (f e : DE) : DS := fun env st => (e env st).out env fun v st1 => (f env st1).out env fun u st2 => match u with
  | .ref n => match st2[n]? with
    | some (.obj c fs) => if c ∈ cs ∧ fs.length < 1000 then .nx env (st2.set n (.obj c (putU x v fs))) else .bad
    | _ => .bad
  | _ => .bad
/-- C(..) -/
def mkO (c : Str) (g : List U → Store → Rs U) (fa : DA) : DE := fun env st => (fa env st).bind fun us st1 => (g (.ref st1.length :: us) (st1 ++ [.obj c []])).bind fun u st2 => match u with
  | .non => .ok (.ref st1.length) st2
  | _ => .bad
/-- o.m(..), by the object's class -/
def mtD (alts : List (Str × (List U → Store → Rs U))) (m : Str) (f : DE) (fa : DA) : DE := fun env st => (f env st).bind fun u st1 => match u with
  | .ref n => match st1[n]? with
    | some (.obj c fs) => match alts.lookup c, fs.lookup m with
      | some g, none => (fa env st1).bind fun us st2 => g (.ref n :: us) st2
      | _, _ => .bad
    | _ => .bad
  | _ => .bad
structure MkF (P : Program) (w : World) (K : PySem.W.Frag) (mg : Str → Option Value) (base : Heap) (xs : XS) (c : Str) (k n : Nat) (g : List U → Store → Rs U) : Prop where
  ex : ∃ C f fd ps, mg c = some (.ref C) ∧ clsAt K c = some C ∧ Mk K C f ∧ Binds K fd ps [] ∧ FnOk P w K mg base (L2.CX P w) k f fd ps (spD K xs n g)
  bad : ∀ us st, us.length ≠ n → g us st = .bad
structure Mt (P : Program) (w : World) (K : PySem.W.Frag) (mg : Str → Option Value) (base : Heap) (xs : XS) (c m : Str) (k n : Nat) (g : List U → Store → Rs U) : Prop where
  ex : ∃ C f fd ps, clsAt K c = some C ∧ Cls K C ∧ Meth K C m f ∧ Binds K fd ps [] ∧ FnOk P w K mg base (L2.CX P w) k f fd ps (spD K xs n g)
  bad : ∀ us st, us.length ≠ n → g us st = .bad
def Mts (P : Program) (w : World) (K : PySem.W.Frag) (mg : Str → Option Value) (base : Heap) (xs : XS) (m : Str) (k : Nat) (alts : List (Str × (List U → Store → Rs U))) : Prop := ∀ p ∈ alts, clsAt K p.1 = none ∨ ∃ k' n, k' ≤ k ∧ Mt P w K mg base xs p.1 m k' n p.2
section
variable {P : Program} {w : World} {K : PySem.W.Frag} {mg : Str → Option Value} {base : Heap} {xs : XS} {m : Str} {k : Nat}
theorem mts_nil : Mts P w K mg base xs m k [] := fun _ h => nomatch h
theorem mts_cons {c : Str} {k' n : Nat} {g : List U → Store → Rs U} {alts : List (Str × (List U → Store → Rs U))} (h : Mt P w K mg base xs c m k' n g) (hk : k' ≤ k) (t : Mts P w K mg base xs m k alts) : Mts P w K mg base xs m k ((c, g) :: alts) := fun p hp => by
  rcases List.mem_cons.mp hp with rfl | hp
  · exact .inr ⟨k', n, hk, h⟩
  · exact t p hp
theorem Mts.at {alts : List (Str × (List U → Store → Rs U))} {c : Str} {g : List U → Store → Rs U} (h : Mts P w K mg base xs m k alts) (e : alts.lookup c = some g) : clsAt K c = none ∨ ∃ k' n, k' ≤ k ∧ Mt P w K mg base xs c m k' n g := by
  induction alts with
  | nil => cases e
  | cons p r ih =>
    rw [show p = (p.1, p.2) from rfl, List.lookup_cons] at e
    cases q : c == p.1 with
    | true =>
      rw [q] at e
      simp only at e
      cases e
      have : c = p.1 := eq_of_beq q
      rw [this]
      exact h p (List.mem_cons_self ..)
    | false => rw [q] at e; exact ih (fun p hp => h p (List.mem_cons_of_mem _ hp)) e
end
/-- a method whose class is told by the object -/
def tMethA (X : Cx) (m : Str) (k : Nat) (wx : WX) (ta : TE) (t : TA) : TE := fun σ H Q => ta σ H fun x H1 => ∃ a C dx fs f fd ps sp k', k' ≤ k ∧ x = .ref a ∧ H1 a = some (.ins C dx fs) ∧ Cls X.K C ∧ Meth X.K C m f ∧ Binds X.K fd ps [] ∧ FnOk X.prog X.w X.K X.mg X.base (L2.CX X.prog X.w) k' f fd ps sp ∧ fs.lookup m = none ∧ t σ H1 fun vs H2 => sp (x :: vs) H2 Q (WE wx σ)
section
variable {X : Cx} {xs : XS} {wx : WX} {pos : Pos}
theorem d_fld {cs : List Str} {x : Str} {e : Expr} {f : DE} (hc : CsF X.K cs x) (he : PE X e (tD X.K xs wx f)) (hb : attributeBase e x X.env (eval e X.env) = eval e X.env := by rfl) : PE X (.Attribute e x pos) (tD X.K xs wx (fldD cs x f)) := pe_imp (pe_fld he hb) fun sg H Q q => by
  obtain ⟨G, io, st, env, ok, er, w⟩ := q
  refine ⟨G, io, st, env, ok, er, w.bind.impR fun st1 io1 H1 u ok1 e1 w1 v rv => ?_⟩
  cases u with
  | ref n =>
    simp only at w1
    split at w1
    · rename_i c fs hn
      split at w1
      · rename_i hcs
        obtain ⟨u, hu, w2⟩ := w1.pure
        obtain ⟨a, C, dx, vs, rfl, i1, i2, i3, i4⟩ := ref_obj ok1 hn rv
        obtain ⟨y, l1, l2⟩ := look_some i4 hu
        exact ⟨a, C, dx, _, y, rfl, i3, (hc c hcs C i2).1, (hc c hcs C i2).2, l1, w2.here ok1 y l2⟩
      · exact w1.elim
    · exact w1.elim
  | _ => exact w1.elim
theorem s_fld {cs : List Str} {x : Str} {o e : Expr} {f g : DE} {pos' : Pos} (hc : CsF X.K cs x) (ho : PE X o (tD X.K xs wx f)) (he : PE X e (tD X.K xs wx g)) (hs : swapsWith e (some (.Attribute o x pos')) pos.line X.env = Pure.pure false := by rfl) : PS X (.Assign [.Attribute o x pos'] e pos) (tDS X.K xs wx (sFldS cs x f g)) := ps_imp (ps_fld ho he hs) fun D sg H q => by
  obtain ⟨F, io, st, env, fr, w⟩ := q
  refine ⟨Gs F env sg, io, st, env, fr.ok, fr.er, (WantsS.expr fr w).impR fun st1 io1 H1 v ok1 e1 z y ry => ?_⟩
  refine ⟨Gs F env sg, io1, st1, env, z.1.ok, z.1.er, (WantsS.expr z.1 z.2).impR fun st2 io2 H2 u ok2 e2 z2 t rt => ?_⟩
  have z4 := z2.2
  cases u with
  | ref n =>
    simp only at z4
    split at z4
    · rename_i c fs hn
      split at z4
      · rename_i hcs
        obtain ⟨a, C, dx, vs, rfl, i1, i2, i3, i4⟩ := ref_obj ok2 hn rt
        obtain ⟨vs', p1, p2⟩ := put_zip (x := x) (ry.ext e2) i4
        refine ⟨a, C, dx, _, rfl, i3, (hc c hcs.1 C i2).1, (hc c hcs.1 C i2).2, by rw [zipF_len i4]; exact hcs.2, ?_⟩
        obtain ⟨f4, e4⟩ := z2.1.turnOb (ob' := .obj c (putU x v fs)) hn i1 (o' := .ins C dx (putF x y (zipF fs vs))) nx_ins fun m => ⟨C, dx, vs', i2, by rw [upd_same, p1]; rfl, p2.mono m⟩
        exact z4 _ _ _ f4 e4
      · exact z4.elim
    · exact z4.elim
  | _ => exact z4.elim
theorem run_makeSD {k : Nat} {C f : Addr} {fd : FuncData} {ps : List Str} {sp : Sp} {E : L2.St → XK} {pins : List (Addr × Obj)} {σ : L2.St} {H : Hp} {s : Shared} {Q : VK} {us : List Value} {vs : List V} (M : Mk X.K C f) (F : FnOk X.prog X.w X.K X.mg X.base (L2.CX X.prog X.w) k f fd ps sp) (hr : Room (k + 1) X.A) (hb : Binds X.K fd ps [])
    (hx : PassesAt (L2.CX X.prog X.w) X σ (E σ)) (I : Inv X pins σ H s) (r : Vals vs us)
    (h : ∀ x dx, H x = none → H dx = none → dx ≠ x → sp (.ref x :: vs) (upd (upd H dx (.own x)) x (.ins C dx [])) (fun v H2 => v = .non ∧ Q (.ref x) H2) (E σ)) :
    wpAny (model X.prog X.w) X.A (call (.ref C) us) (EP X pins σ Q) X.xe s := by
  have hq := h (s.heap.objs.size + 1) s.heap.objs.size (I.hok.fresh (Nat.le_succ _)) (I.hok.fresh (Nat.le_refl _)) (Nat.ne_of_lt (Nat.lt_succ_self _))
  have I2 := Inv.made (C := C) I
  have r2 : Vals (V.ref (s.heap.objs.size + 1) :: vs) (Value.ref (s.heap.objs.size + 1) :: us) := .cons rfl r
  have hl : (Value.ref (s.heap.objs.size + 1) :: us ++ []).length = ps.length := by
    have e := r2.length
    rw [F.len _ _ _ _ hq] at e
    rw [List.append_nil]; exact e.symm
  have hbb := hb _ (Value.ref (s.heap.objs.size + 1) :: us) I2.kIn hl
  rw [List.append_nil] at hbb
  refine wpAny_call (make_map (f := f) I.kIn M.makes M.init (beq_iff_eq.mp M.fn) (codeAny_mono (F.run _ X.stack _ _ ⟨Value.ref (s.heap.objs.size + 1) :: us, []⟩ (Value.ref (s.heap.objs.size + 1) :: us) _ _ (E σ) (hr.make C us [])
    (I2.env0.make C us []) hbb r2 hq) fun r s' hq' => ?_))
  cases r with
  | error e => exact hx pins _ _ e s' I2 hq'
  | ok fl =>
    cases fl with
    | ret u =>
      obtain ⟨v, H', I3, rv, ev, q3⟩ := I2.after hq'
      subst ev
      exact ⟨rv, ⟨V.ref (s.heap.objs.size + 1), H', I3, rfl, q3⟩⟩
    | next => exact False.elim hq'
    | brk => exact False.elim hq'
    | cont => exact False.elim hq'
theorem d_make {k n : Nat} {c : Str} {p : Pos} {e : Expr} {es : List Expr} {g : List U → Store → Rs U} {fa : DA} (M : MkF X.prog X.w X.K X.mg X.base xs c k n g) (tk : Takes X wx) (hr : Room (k + 1) X.A) (hg : Gl X c)
    (ha : PA X (e :: es) (tDA X.K xs wx fa)) (hdb : (c == ("__debug__" : Str)) = false := by decide)
    (he : starEach (e :: es) X.env = (false, eval e X.env) :: starEach es X.env := by rfl) (hpl : (backTo pos (starEach es X.env)).any (·.1) = false := by rfl) : PE X (.Call (.Name c p) (e :: es) [] pos) (tD X.K xs wx (mkO c g fa)) := by
  obtain ⟨⟨C, f, fd, ps, h1, h2, h3, h4, h5⟩, hgn⟩ := M
  refine pe_imp (⟨fun pins s σ H Q I h => ?_⟩ : PE X _ (fun σ H Q => tDA X.K xs wx fa σ H fun vs H1 => ∀ x dx, H1 x = none → H1 dx = none → dx ≠ x → spD X.K xs n g (.ref x :: vs) (upd (upd H1 dx (.own x)) x (.ins C dx [])) (fun v H2 => v = .non ∧ Q (.ref x) H2) (WE wx σ))) fun sg H Q h => ?_
  · refine wpAny_Call_Name_kw (ld_glob I hg h1 ?_ hdb)
    refine PySem.W.callWith_K (h₀ := X.base) I.ok.mod.kin h3.kp (thn (ha.run pos pins s σ H _ I h) fun us s1 ⟨vs, H1, I1, r, q⟩ => ⟨I1.kIn, ?_⟩) he hpl
    exact run_makeSD (E := WE wx) h3 h5 hr h4 (passAt tk σ) I1 r q
  · obtain ⟨G, io, st, env, ok, er, w⟩ := h
    refine ⟨G, io, st, env, ok, er, w.bind.impR fun st1 io1 H1 us ok1 e1 w1 vs rvs x dx nx ndx ne => ?_⟩
    have hn : (U.ref st1.length :: us).length = n := Decidable.byContradiction fun z => by rw [hgn _ _ z] at w1; exact w1
    have s1 : Same H1 (upd H1 dx (.own x)) := same_upd ndx
    have nx' : (upd H1 dx (.own x)) x = none := by rw [upd_ne (Ne.symm ne)]; exact nx
    obtain ⟨ok2, e2⟩ := (ok1.same s1).alloc (o := .ins C dx []) (ob := .obj c []) nx' nx_ins ⟨C, dx, [], h2, by rw [upd_same]; rfl, .nil⟩
    have ex := (Ext.same (io := io1) s1).trans e2
    have hx : (io1 ++ [x])[st1.length]? = some x := by rw [ok1.len, List.getElem?_append_right (Nat.le_refl _)]; simp
    refine ⟨by rw [← hn, List.length_cons, List.length_cons, rvs.length], G, io1 ++ [x], st1 ++ [.obj c []], .ref st1.length :: us, ok2, .cons (by unfold Rep; exact ⟨x, hx, rfl⟩) (rvs.ext ex), ?_⟩
    refine (Wants.later w1.bind ex).impR fun st2 io2 H2 u ok3 e3 w2 v rv => ?_
    cases u with
    | non =>
      refine ⟨by unfold Rep at rv; exact rv, w2.here ok3 (.ref x) ?_⟩
      unfold Rep
      exact ⟨x, e3.io_get hx, rfl⟩
    | _ => exact w2.elim
theorem meth_read {m : Str} {k : Nat} {alts : List (Str × (List U → Store → Rs U))} {f : DE} {fa : DA} (hM : Mts X.prog X.w X.K X.mg X.base xs m k alts) {sg : L2.St} {H : Hp} {Q : VK} (h : tD X.K xs wx (mtD alts m f fa) sg H Q) : tMethA X m k wx (tD X.K xs wx f) (tDA X.K xs wx fa) sg H Q := by
  obtain ⟨G, io, st, env, ok, er, w⟩ := h
  refine ⟨G, io, st, env, ok, er, w.bind.impR fun st1 io1 H1 u ok1 e1 w1 v rv => ?_⟩
  cases u with
  | ref n =>
    simp only at w1
    split at w1
    · rename_i c fs hn
      split at w1
      · rename_i g hg hm
        obtain ⟨a, C', dx, vs, rfl, i1, i2, i3, i4⟩ := ref_obj ok1 hn rv
        rcases hM.at hg with hno | ⟨k', n', hk, ⟨⟨C, f, fd, ps, h2, h3, h4, h5, h6⟩, hgn⟩⟩
        · rw [hno] at i2; cases i2
        rw [h2] at i2; cases i2
        refine ⟨a, _, dx, _, f, fd, ps, _, k', hk, rfl, i3, h3, h4, h5, h6, look_none i4 hm, ?_⟩
        refine ⟨G, io1, st1, env, ok1, er.ext ok.dj e1, w1.bind.impR fun st2 io2 H2 us ok2 e2 w2 vs' rvs => ?_⟩
        have hl : (U.ref n :: us).length = n' := Decidable.byContradiction fun z => by rw [hgn _ _ z] at w2; exact w2
        refine ⟨by rw [← hl, List.length_cons, List.length_cons, rvs.length], G, io2, st2, .ref n :: us, ok2, .cons (rv.ext e2) rvs, w2⟩
      · exact w1.elim
    · exact w1.elim
  | _ => exact w1.elim
theorem d_meth {m : Str} {k : Nat} {alts : List (Str × (List U → Store → Rs U))} {o e : Expr} {es : List Expr} {f : DE} {fa : DA} {apos : Pos} {pl : Sem Bool} (hM : Mts X.prog X.w X.K X.mg X.base xs m k alts) (tk : Takes X wx) (hr : Room k X.A) (ho : PE X o (tD X.K xs wx f)) (ha : PA X (e :: es) (tDA X.K xs wx fa))
    (hst : starEach (e :: es) X.env = (false, eval e X.env) :: starEach es X.env := by rfl) (hpl : (backTo pos (starEach es X.env)).any (·.1) = false := by rfl)
    (ht : eval (.Call (.Attribute o m apos) (e :: es) [] pos) X.env = (do
      let ov ← eval o X.env
      standAt apos.atName
      let (f, first) ← holding [ov] (getMethod ov m pl)
      callWith pos f first (backTo pos (starEach (e :: es) X.env)) (backToKw pos (keywordEach [] X.env))) := by rfl) :
    PE X (.Call (.Attribute o m apos) (e :: es) [] pos) (tD X.K xs wx (mtD alts m f fa)) := by
  refine pe_imp (⟨fun pins s σ H Q I h => ?_⟩ : PE X _ (tMethA X m k wx (tD X.K xs wx f) (tDA X.K xs wx fa))) fun sg H Q h => meth_read hM h
  refine PySem.W.methodCall_KW (pl := pl) (thn (ho.run pins s σ H _ I h) fun u s1 ⟨x, H1, I1, rx, a, C, dx, fs, f, fd, ps, sp, k', hk, ex, ea, c, hm, hb, F, l, q⟩ => ?_) ht
  subst ex
  obtain rfl : u = Value.ref a := rx
  refine getmeth_ok I1 ea c hm l ?_
  refine PySem.W.callWith_K (first := [.ref a]) (h₀ := X.base) I.ok.mod.kin hm.kp (thn (ha.run pos pins s1 σ H1 _ I1 q) fun us s2 ⟨vs, H2, I2, r, q2⟩ => ⟨I2.kIn, ?_⟩) hst hpl
  exact run_fnSD (E := WE wx) (us := .ref a :: us) (vs := .ref a :: vs) (dvs := []) F (hr.mono hk) hb .nil (passAt tk σ) I2 (.cons rfl r) (by rw [List.append_nil]; exact q2)
end
@[simp] theorem fldD_ap (cs : List Str) (x : Str) (f : DE) (env : Env) (st : Store) : fldD cs x f env st = (f env st).bind fun u st1 => match u with
  | .ref n => match st1[n]? with
    | some (.obj c fs) => if c ∈ cs then Rs.of (fs.lookup x) st1 else .bad
    | _ => .bad
  | _ => .bad := (rfl)
@[simp] theorem sFldS_ap (cs : List Str) (x : Str) (f e : DE) (env : Env) (st : Store) : sFldS cs x f e env st = (e env st).out env fun v st1 => (f env st1).out env fun u st2 => match u with
  | .ref n => match st2[n]? with
    | some (.obj c fs) => if c ∈ cs ∧ fs.length < 1000 then .nx env (st2.set n (.obj c (putU x v fs))) else .bad
    | _ => .bad
  | _ => .bad := (rfl)
@[simp] theorem mkO_ap (c : Str) (g : List U → Store → Rs U) (fa : DA) (env : Env) (st : Store) : mkO c g fa env st = (fa env st).bind fun us st1 => (g (.ref st1.length :: us) (st1 ++ [.obj c []])).bind fun u st2 => match u with
  | .non => .ok (.ref st1.length) st2
  | _ => .bad := (rfl)
@[simp] theorem mtD_ap (alts : List (Str × (List U → Store → Rs U))) (m : Str) (f : DE) (fa : DA) (env : Env) (st : Store) : mtD alts m f fa env st = (f env st).bind fun u st1 => match u with
  | .ref n => match st1[n]? with
    | some (.obj c fs) => match alts.lookup c, fs.lookup m with
      | some g, none => (fa env st1).bind fun us st2 => g (.ref n :: us) st2
      | _, _ => .bad
    | _ => .bad
  | _ => .bad := (rfl)
end D
namespace D
open PySem L2
section
variable {X : Cx} {xs : XS} {wx : WX} {pos : Pos}
def putAll (cs : List Str) (f : DE) : List Str → List U → DS
  | [], [], env, st => .nx env st
  | x :: ns, u :: us, env, st => (f env st).out env fun o st1 => match o with
    | .ref n => match st1[n]? with
      | some (.obj c fs) => if c ∈ cs ∧ fs.length < 1000 then putAll cs f ns us env (st1.set n (.obj c (putU x u fs))) else .bad
      | _ => .bad
    | _ => .bad
  | _, _, _, _ => .bad
def sFldT (cs : List Str) (ns : List Str) (f e : DE) : DS := fun env st => (e env st).out env fun v st1 => match v with
  | .tup us => if us.length = ns.length then putAll cs f ns us env st1 else .bad
  | _ => .bad
end
def kOfs : List U → Option (List Key)
  | [] => some []
  | u :: us => match kOf u, kOfs us with
    | some k, some l => some (k :: l)
    | _, _ => none
def keyT : U → Option (List Key)
  | .tup us => kOfs us
  | _ => none
def keysT : List U → Option (List (List Key))
  | [] => some []
  | u :: us => match keyT u, keysT us with
    | some k, some l => some (k :: l)
    | _, _ => none
theorem kOf_kU (k : Key) : kOf (kU k) = some k := by cases k <;> rfl
theorem kOfs_kU : ∀ k : List Key, kOfs (k.map kU) = some k
  | [] => rfl
  | x :: k => by rw [List.map_cons]; unfold kOfs; rw [kOf_kU, kOfs_kU k]
def findT (k : List Key) : List (List Key) → List U → Option U
  | j :: ks, u :: us => if j = k then some u else findT k ks us
  | _, _ => none
def dTof : U → Option (List (List Key) × List U)
  | .dct (k0 :: ks) us => (keysT (k0 :: ks)).map fun kk => (kk, us)
  | _ => none
/-- d.get((a, b), x) -/
def getTD (f : DE) (ka : DA) (g : DE) : DE := fun env st => (f env st).bind fun u st1 => match dTof u with
  | some (kk, us) => (ka env st1).bind fun key st2 => if key.length ≤ sizeLine then (g env st2).bind fun d st3 => match kOfs key with
    | some k => .ok ((findT k kk us).getD d) st3
    | none => .bad
    else .bad
  | none => .bad
section
variable {X : Cx} {xs : XS} {wx : WX} {pos : Pos}
def keyedT : List (List U × U) → Option (List (List Key × U))
  | [] => some []
  | p :: r => match kOfs p.1, keyedT r with
    | some k, some l => some ((k, p.2) :: l)
    | _, _ => none
def dispTU (l : List (List U × U)) : Option U := (keyedT l).bind fun kvs => if (kvs.length ≤ 15 ∧ (kvs.map (·.1)).Nodup) ∧ kvs ≠ [] then some (.dct (kvs.map fun p => .tup (p.1.map kU)) (kvs.map (·.2))) else none
def pairsT : List (DA × DE) → Env → Store → Rs (List (List U × U))
  | [], _, st => .ok [] st
  | p :: r, env, st => (p.1 env st).bind fun k st1 => if k.length ≤ sizeLine then (p.2 env st1).bind fun v st2 => (pairsT r env st2).bind fun l st3 => .ok ((k, v) :: l) st3 else .bad
def dispT (ps : List (DA × DE)) : DE := fun env st => (noEx (pairsT ps env st)).bind fun l st1 => Rs.of (dispTU l) st1
end
@[simp] theorem getTD_ap (f : DE) (ka : DA) (g : DE) (env : Env) (st : Store) : getTD f ka g env st = (f env st).bind fun u st1 => match dTof u with
  | some (kk, us) => (ka env st1).bind fun key st2 => if key.length ≤ 16777216 then (g env st2).bind fun d st3 => match kOfs key with
    | some k => .ok ((findT k kk us).getD d) st3
    | none => .bad
    else .bad
  | none => .bad := by rw [← sizeLine_val]; rfl
@[simp] theorem sFldT_ap (cs ns : List Str) (f e : DE) (env : Env) (st : Store) : sFldT cs ns f e env st = (e env st).out env fun v st1 => match v with
  | .tup us => if us.length = ns.length then putAll cs f ns us env st1 else .bad
  | _ => .bad := (rfl)
@[simp] theorem dispT_ap (ps : List (DA × DE)) (env : Env) (st : Store) : dispT ps env st = (noEx (pairsT ps env st)).bind fun l st1 => Rs.of (dispTU l) st1 := (rfl)
theorem units1 {k : Nat} {A : Around} (hr : Room k A) : A.units + 1 < cLine := by have := hr.un; omega
theorem mt_mk {P : Program} {w : World} {K : PySem.W.Frag} {mg : Str → Option Value} {base : Heap} {xs : XS} {c x qual : Str} {s : Stmt} {k n m : Nat} {body : DS} {C f : Addr} {od an : Option Addr} {sl : Array (Option Value)} {oc kV dc pm cd ct : Value} {N ps : List Str}
    (a : PySem.W.nsIn K mainGlobals c = some (some (.ref C))) (cl : Cls K C) (at_ : PySem.W.findIn K (.ref C) x = some (some (.ref f))) (fn : PySem.W.isFn K (.ref f) = true)
    (l : K.lookup f = some ⟨oc, od, .func (PySem.W.fnOf x qual (defArgs s) (defBody s) (defScope s) .none kV dc pm an cd ct), sl⟩) (co : PySem.W.codeIn K cd qual = true) (kp : PySem.W.keepIn K (.ref f) = true)
    (S : FnScope N ps (defScope s)) (hb : ∀ (us : List Value), us.length = ps.length → bindArgs (PySem.W.fnOf x qual (defArgs s) (defBody s) (defScope s) .none kV dc pm an cd ct) ⟨us, []⟩ = Pure.pure (ps.zip us)) (hn : ps.length = n) (hm : N.length = m)
    (B : ∀ f fd, Fun K x qual s f fd → FnOk P w K mg base (L2.CX P w) k f fd ps (spD K xs ps.length (runB N.length ps.length body))) : Mt P w K mg base xs c x k n (runB m n body) := by
  subst hn; subst hm
  have F := fun_mk (st := s) l co kp
  exact ⟨⟨C, f, _, ps, clsAt_of a, cl, ⟨at_, fn, kp⟩, .all hb, B f _ F⟩, fun us st h => runB_bad us st h⟩
theorem mkf_mk {P : Program} {w : World} {K : PySem.W.Frag} {mg : Str → Option Value} {base : Heap} {xs : XS} {c x qual : Str} {s : Stmt} {k n m : Nat} {body : DS} {h : Heap} (XK : K.In h) (G : h.Ns mainGlobals mg) {C f : Addr} {od an : Option Addr} {sl : Array (Option Value)} {oc kV dc pm cd ct : Value} {N ps : List Str}
    (a : PySem.W.nsIn K mainGlobals c = some (some (.ref C))) (mk : PySem.W.makesIn K C = true) (at_ : PySem.W.findIn K (.ref C) "__init__" = some (some (.ref f))) (fn : PySem.W.isFn K (.ref f) = true) (kc : PySem.W.keepIn K (.ref C) = true)
    (l : K.lookup f = some ⟨oc, od, .func (PySem.W.fnOf x qual (defArgs s) (defBody s) (defScope s) .none kV dc pm an cd ct), sl⟩) (co : PySem.W.codeIn K cd qual = true) (kp : PySem.W.keepIn K (.ref f) = true)
    (S : FnScope N ps (defScope s)) (hb : ∀ (us : List Value), us.length = ps.length → bindArgs (PySem.W.fnOf x qual (defArgs s) (defBody s) (defScope s) .none kV dc pm an cd ct) ⟨us, []⟩ = Pure.pure (ps.zip us)) (hn : ps.length = n) (hm : N.length = m)
    (B : ∀ f fd, Fun K x qual s f fd → FnOk P w K mg base (L2.CX P w) k f fd ps (spD K xs ps.length (runB N.length ps.length body))) : MkF P w K mg base xs c k n (runB m n body) := by
  subst hn; subst hm
  have F := fun_mk (st := s) l co kp
  exact ⟨⟨C, f, _, ps, PySem.W.mg_of XK G a, clsAt_of a, ⟨mk, at_, fn, kc⟩, .all hb, B f _ F⟩, fun us st h => runB_bad us st h⟩
end D
namespace D
open PySem L2
def der1 (st : Store) : U → U
  | .ref n => match st[n]? with
    | some (.lst us) => .lst us
    | _ => .ref n
  | u => u
mutual
def tupU : U → Bool
  | .non => true
  | .bl _ => true
  | .int _ => true
  | .str _ => true
  | .tup us => tupUs us
  | _ => false
def tupUs : List U → Bool
  | [] => true
  | u :: us => tupU u && tupUs us
end
/-- what of W is no list of the store -/
def Wv (G : Addr → Prop) (io : List Addr) (st : Store) : Addr → Prop := fun b => Wf G io b ∧ ¬ ∃ (n : Nat) (us : List U), st[n]? = some (Ob.lst us) ∧ io[n]? = some b
section
variable {K : PySem.W.Frag} {G : Addr → Prop} {io : List Addr} {st : Store} {H : Hp} {env : Env} {sg : L2.St}
theorem wv_sub : ∀ a, Wf (Wv G io st) [] a → Wf G io a := fun a h => h.elim (fun z => z.1) fun z => nomatch z
theorem Ok.view (ok : Ok K G io st H) : Ok K (Wv G io st) [] [] H := ⟨List.nodup_nil, fun a h => (nomatch h), fun a h => ok.trk a (wv_sub a h), rfl, fun n ob a e _ => by rw [List.getElem?_nil] at e; cases e⟩
theorem der_rep (ok : Ok K G io st H) {u : U} {v : V} (r : Rep K (Wf G io) io H u v) (hn : noRef (der1 st u) = true) : Rep K (Wf (Wv G io st) []) [] H (der1 st u) v := by
  cases u with
  | ref n =>
    have hd : der1 st (.ref n) = match st[n]? with
      | some (.lst us) => .lst us
      | _ => .ref n := rfl
    rw [hd] at hn ⊢
    cases q : st[n]? with
    | none => rw [q] at hn; simp only at hn; unfold noRef at hn; cases hn
    | some ob =>
      rw [q] at hn
      cases ob with
      | lst us =>
        simp only at hn ⊢
        unfold noRef at hn
        obtain ⟨a, vs, rfl, q1, q2, q3⟩ := ref_list ok q r
        unfold Rep
        refine ⟨a, vs, rfl, ⟨q2, fun z => ?_⟩, Reps.io_any wv_sub us vs hn q3⟩
        rcases z with z | z
        · exact z.2 ⟨n, us, q, q1⟩
        · cases z
      | _ => simp only at hn; unfold noRef at hn; cases hn
  | _ => exact Rep.io_any wv_sub _ v hn r
theorem der_reps (ok : Ok K G io st H) : ∀ {us : List U} {vs : List V}, Reps K (Wf G io) io H us vs → noRefs (us.map (der1 st)) = true → Reps K (Wf (Wv G io st) []) [] H (us.map (der1 st)) vs
  | [], vs, r, _ => by rw [r.isNil]; exact .nil
  | u :: us, vs, r, h => by
    obtain ⟨v, t, rfl, r1, r2⟩ := r.uncons
    rw [List.map_cons] at h ⊢
    unfold noRefs at h
    rw [Bool.and_eq_true] at h
    exact .cons (der_rep ok r1 h.1) (der_reps ok r2 h.2)
mutual
theorem tup_back {H' : Hp} (ok : Ok K G io st H) (sm : Same H H') : ∀ (u : U) (v : V), tupU u = true → Rep K (Wf (Wv G io st) []) [] H' u v → Rep K (Wf G io) io H' u v
  | .non, v, _, h => by unfold Rep at h ⊢; exact h
  | .bl b, v, _, h => by unfold Rep at h ⊢; exact h
  | .int i, v, _, h => by unfold Rep at h ⊢; exact h
  | .str x, v, _, h => by unfold Rep at h ⊢; exact h
  | .tup us, v, n, h => by
    unfold Rep at h ⊢
    unfold tupU at n
    obtain ⟨a, vs, e, l, r⟩ := h
    refine ⟨a, vs, e, ?_, tups_back ok sm us vs n r⟩
    rcases l with ⟨l1, l2⟩ | l
    · refine .inl ⟨l1, fun z => l2 (.inl ⟨z, fun ⟨m, ws, y1, y2⟩ => ?_⟩)⟩
      obtain ⟨xs, q1, _⟩ := ok.obs m _ a y1 y2
      have q2 := sm _ _ q1
      rcases l1 with l1 | ⟨o, l1⟩
      · rw [q2] at l1; cases l1
      · rw [q2] at l1; cases l1
    · exact .inr l
  | .ty x, v, n, h => by unfold tupU at n; cases n
  | .ref x, v, n, h => by unfold tupU at n; cases n
  | .lst us, v, n, h => by unfold tupU at n; cases n
  | .dct ks us, v, n, h => by unfold tupU at n; cases n
  | .scr ns, v, n, h => by unfold tupU at n; cases n
theorem tups_back {H' : Hp} (ok : Ok K G io st H) (sm : Same H H') : ∀ (us : List U) (vs : List V), tupUs us = true → Reps K (Wf (Wv G io st) []) [] H' us vs → Reps K (Wf G io) io H' us vs
  | [], vs, _, h => by unfold Reps at h ⊢; exact h
  | u :: us, vs, n, h => by
    unfold Reps at h ⊢
    unfold tupUs at n
    rw [Bool.and_eq_true] at n
    obtain ⟨v, r, e, q, t⟩ := h
    exact ⟨v, r, e, tup_back ok sm u v n.1 q, tups_back ok sm us r n.2 t⟩
end
end
/-- f(..), lists of the store lent as plain data; what is told is made of tuples -/
def appV (g : List U → Store → Rs U) (fa : DA) : DE := fun env st => (fa env st).bind fun us st1 => if noRefs (us.map (der1 st1)) = true then match g (us.map (der1 st1)) [] with
  | .ok u [] => if tupU u = true then .ok u st1 else .bad
  | _ => .bad
  else .bad
/-- a op b of lists of the store -/
def binV (g : U → U → Option U) (a b : DE) : DE := fun env st => (a env st).bind fun u st1 => (b env st1).bind fun v st2 => if noRef (der1 st2 u) = true ∧ noRef (der1 st2 v) = true then Rs.of (flat1 (g (der1 st2 u) (der1 st2 v))) st2 else .bad
/-- tuple(list of the store) -/
def tupR (f : DE) : DE := fun env st => (f env st).bind fun u st1 => match u with
  | .ref n => match st1[n]? with
    | some (.lst us) => .ok (.tup us) st1
    | _ => .bad
  | _ => .bad
def sAppR (f g : DE) : DS := fun env st => (f env st).out env fun u st1 => match u with
  | .ref n => match st1[n]? with
    | some (.lst _) => (g env st1).out env fun v st2 => match st2[n]? with
      | some (.lst us) => if us.length < sizeLine then .nx env (st2.set n (.lst (us ++ [v]))) else .bad
      | _ => .bad
    | _ => .bad
  | _ => .bad
/-- o.pop(i) -/
def popR (f g : DE) : DE := fun env st => (f env st).bind fun u st1 => match u with
  | .ref n => match st1[n]? with
    | some (.lst _) => (g env st1).bind fun v st2 => match v, st2[n]? with
      | .int i, some (.lst us) => if -(2 ^ 63) ≤ i ∧ i < 2 ^ 63 then match seqIndex? i us.length with
        | some k => match us[k]? with
          | some y => .ok y (st2.set n (.lst (us.eraseIdx k)))
          | none => .bad
        | none => .bad
        else .bad
      | _, _ => .bad
    | _ => .bad
  | _ => .bad
theorem Reps.erase : ∀ {K : PySem.W.Frag} {W : Addr → Prop} {io : List Addr} {H : Hp} {us : List U} {vs : List V} (k : Nat), Reps K W io H us vs → Reps K W io H (us.eraseIdx k) (vs.eraseIdx k)
  | _, _, _, _, [], vs, k, h => by rw [h.isNil]; simpa using Reps.nil
  | _, _, _, _, u :: us, vs, 0, h => by
    obtain ⟨v, t, rfl, h1, h2⟩ := h.uncons
    exact h2
  | _, _, _, _, u :: us, vs, k + 1, h => by
    obtain ⟨v, t, rfl, h1, h2⟩ := h.uncons
    exact .cons h1 (Reps.erase k h2)
section
variable {K : PySem.W.Frag} {F G : Addr → Prop} {io : List Addr} {st : Store} {H : Hp}
/-- an object turns under an expression -/
theorem Ok.turnOb (f : Ok K G io st H) {n : Nat} {ob ob' : Ob} {o' : HO} {a : Addr} (h1 : st[n]? = some ob) (h2 : io[n]? = some a) (hx : NX o')
    (new : Mono G io H G io (upd H a o') → ObRep K (Wf G io) io (upd H a o') a ob') : Ok K G io (st.set n ob') (upd H a o') ∧ Ext io H io (upd H a o') := by
  have ha : a ∈ io := List.mem_of_getElem? h2
  have hn : n < st.length := (List.getElem?_eq_some_iff.mp h1).1
  have keep : ∀ b o, b ≠ a → H b = some o → (upd H a o') b = some o := fun b o q h => by rw [upd_ne q]; exact h
  have ex : Ext io H io (upd H a o') := ⟨⟨[], by simp, fun _ h => nomatch h⟩, fun b o q h => keep b o (fun e => q (e ▸ ha)) h, fun b o h => by
    by_cases e : b = a
    · subst e; exact ⟨_, upd_same⟩
    · exact ⟨o, keep b o e h⟩⟩
  have m := ex.mono (G := G)
  have nxa : ∀ (dd : Addr) (ws : List (Str × V)), H dd = some (.xd ws) → dd ≠ a := fun dd ws z e => by
    subst e
    obtain ⟨o, e1, x⟩ := f.trk dd (.inr ha)
    rw [z] at e1; cases e1; exact x ws rfl
  refine ⟨⟨f.nd, f.dj, fun b h => ?_, by simp [f.len], fun k ob b e1 e2 => ?_⟩, ex⟩
  · obtain ⟨o, e, x⟩ := f.trk b h
    by_cases hb : b = a
    · subst hb; exact ⟨_, upd_same, hx⟩
    · exact ⟨o, keep b o hb e, x⟩
  · by_cases hk : n = k
    · subst hk
      rw [List.getElem?_set_self hn] at e1
      rw [h2] at e2
      cases e1; cases e2
      exact new m
    · rw [List.getElem?_set_ne hk] at e1
      have nb : b ≠ a := fun e => by
        subst e
        exact hk ((List.getElem?_inj (List.getElem?_eq_some_iff.mp h2).1 f.nd).mp (h2.trans e2.symm))
      exact (f.obs k ob b e1 e2).mono m (fun u q => keep b u nb q) fun dd ws q => keep dd _ (nxa dd ws q) q
end
section
variable {X : Cx} {xs : XS} {wx : WX} {pos : Pos}
theorem d_callV {k n : Nat} {x : Str} {p : Pos} {e : Expr} {es : List Expr} {g : List U → Store → Rs U} {fa : DA} (F : Fn X.prog X.w X.K X.mg X.base xs x k n g) (tk : Takes X wx) (hr : Room k X.A) (hg : Gl X x)
    (ha : PA X (e :: es) (tDA X.K xs wx fa)) (hdb : (x == ("__debug__" : Str)) = false := by decide)
    (he : starEach (e :: es) X.env = (false, eval e X.env) :: starEach es X.env := by rfl) (hpl : (backTo pos (starEach es X.env)).any (·.1) = false := by rfl) : PE X (.Call (.Name x p) (e :: es) [] pos) (tD X.K xs wx (appV g fa)) := by
  obtain ⟨⟨f, fd, ps, h1, h2, h3, h4⟩, h5⟩ := F
  refine pe_imp (pe_callSD (E := WE wx) (dvs := []) h4 hr hg h1 h2 h3 .nil (fun s => passAt tk s) ha hdb he hpl) fun sg H Q h => ?_
  obtain ⟨G, io, st, env, ok, er, w⟩ := h
  refine ⟨G, io, st, env, ok, er, w.bind.impR fun st1 io1 H1 us ok1 e1 w1 vs rvs => ?_⟩
  split at w1
  · rename_i hn
    cases hG : g (us.map (der1 st1)) [] with
    | bad => rw [hG] at w1; exact w1.elim
    | ex c fs s => rw [hG] at w1; exact w1.elim
    | ok u s =>
      rw [hG] at w1
      cases s with
      | cons ob s => exact w1.elim
      | nil =>
        simp only at w1
        split at w1
        · rename_i ht
          have hl : (us.map (der1 st1)).length = n := Decidable.byContradiction fun z => by rw [h5 _ _ z] at hG; cases hG
          refine ⟨by rw [List.append_nil, ← rvs.length, ← hl, List.length_map], Wv G io1 st1, [], [], us.map (der1 st1), ok1.view, by rw [List.append_nil]; exact der_reps ok1 rvs hn, ?_⟩
          rw [hG]
          intro io' H' ok2 e2 v' rv'
          have hio : io' = [] := List.length_eq_zero_iff.mp (by rw [← ok2.len]; rfl)
          subst hio
          have sm : Same H1 H' := fun a o e => e2.keep a o (fun z => nomatch z) e
          exact w1.hereS ok1 sm v' (tup_back ok1 sm u v' ht rv')
        · exact w1.elim
  · exact w1.elim
theorem d_tupR {e : Expr} {p : Pos} {f : DE} (hg : Gl X "tuple") (hm : X.mg "tuple" = none) (he : PE X e (tD X.K xs wx f)) (hs : starEach [e] X.env = (false, eval e X.env) :: starEach [] X.env := by rfl) :
    PE X (.Call (.Name "tuple" p) [e] [] pos) (tD X.K xs wx (tupR f)) := by
  refine pe_imp (pe_callTy (pos := pos) (p := p) call_tuple_of hg hm bt_tuple (pa_cons he pa_nil hs) (by decide) (by decide) hs rfl) fun sg H Q h => ?_
  obtain ⟨G, io, st, env, ok, er, w⟩ := h
  refine ⟨G, io, st, env, ok, er, w.bind.impR fun st1 io1 H1 u ok1 e1 w1 v rv => ?_⟩
  cases u with
  | ref n =>
    simp only at w1
    split at w1
    · rename_i us hus
      obtain ⟨a, vs, rfl, q1, q2, rs⟩ := ref_list ok1 hus rv
      exact ⟨a, vs, rfl, .inl ⟨.inl (.inl q2), fun p hp => w1.hereS ok1 (same_upd hp) _ (ok1.newT hp rs)⟩⟩
    · exact w1.elim
  | _ => exact w1.elim
theorem s_appR {o e : Expr} {f g : DE} {p1 : Pos} (ho : PE X o (tD X.K xs wx f)) (he : PE X e (tD X.K xs wx g)) (hbase : attributeBase o "append" X.env (eval o X.env) = eval o X.env := by rfl)
    (hfew : ((backTo pos (starEach [e] X.env)).all (fun x => !x.1) && (backToKw pos (keywordEach [] X.env)).all (fun x => x.1.isSome) && decide ([e].length + ([] : List Keyword).length + (if ([] : List Keyword).isEmpty then 0 else 1) < 30)) = true := by rfl)
    (hline : (p1.endLine == pos.line) = true := by rfl) (hs : starEach (e :: []) X.env = (false, eval e X.env) :: starEach [] X.env := by rfl) (hplain : (backTo pos (starEach [] X.env)).any (·.1) = false := by rfl)
    (hsw : swapsWith (.Call (.Attribute o "append" p1) [e] [] pos) none pos.line X.env = Pure.pure false := by rfl) {pos2 : Pos} :
    PS X (.Expr (.Call (.Attribute o "append" p1) [e] [] pos) pos2) (tDS X.K xs wx (sAppR f g)) := by
  refine ps_imp (ps_expr (pe_bm PySem.F.plainAttrs_list PySem.F.slot_list_append PySem.F.type_list_append mt_append ho (pa_cons he pa_nil hs) hbase hfew hline hs hplain) hsw) fun D sg H h => ?_
  obtain ⟨F, io, st, env, fr, w⟩ := h
  refine ⟨Gs F env sg, io, st, env, fr.ok, fr.er, (WantsS.expr fr w).impR fun st1 io1 H1 u ok1 e1 z x rx => ?_⟩
  have z1 := z.2
  cases u with
  | ref n =>
    simp only at z1
    split at z1
    · rename_i us0 hus0
      obtain ⟨a, vs0, rfl, q1, q2, q3⟩ := ref_list ok1 hus0 rx
      refine ⟨.inl ⟨rfl, vs0, .inl (.inl q2)⟩, Gs F env sg, io1, st1, env, z.1.ok, z.1.er, (WantsS.expr z.1 z1).impR fun st2 io2 H2 u2 ok2 e2 z2 y ry => ?_⟩
      have z3 := z2.2
      split at z3
      · rename_i us hus
        split at z3
        · rename_i hl
          obtain ⟨a', vs, ea, p1, p2, p3⟩ := ref_list ok2 hus (rx.ext e2)
          cases ea
          refine ⟨a, vs, y, rfl, rfl, p2, by rw [← p3.length]; exact hl, ?_⟩
          have t := z2.1.turnRef hus p1 (p3.append (.cons ry .nil))
          exact z3 io2 _ _ t.1 t.2
        · exact z3.elim
      · exact z3.elim
    · exact z1.elim
  | _ => exact z1.elim
theorem d_popR {o e : Expr} {f g : DE} {p1 : Pos} (ho : PE X o (tD X.K xs wx f)) (he : PE X e (tD X.K xs wx g)) (hbase : attributeBase o "pop" X.env (eval o X.env) = eval o X.env := by rfl)
    (hfew : ((backTo pos (starEach [e] X.env)).all (fun x => !x.1) && (backToKw pos (keywordEach [] X.env)).all (fun x => x.1.isSome) && decide ([e].length + ([] : List Keyword).length + (if ([] : List Keyword).isEmpty then 0 else 1) < 30)) = true := by rfl)
    (hline : (p1.endLine == pos.line) = true := by rfl) (hs : starEach (e :: []) X.env = (false, eval e X.env) :: starEach [] X.env := by rfl) (hplain : (backTo pos (starEach [] X.env)).any (·.1) = false := by rfl) :
    PE X (.Call (.Attribute o "pop" p1) [e] [] pos) (tD X.K xs wx (popR f g)) := by
  refine pe_imp (pe_bm PySem.F.plainAttrs_list PySem.F.slot_list_pop PySem.F.type_list_pop mt_popAt ho (pa_cons he pa_nil hs) hbase hfew hline hs hplain) fun sg H Q h => ?_
  obtain ⟨G, io, st, env, ok, er, w⟩ := h
  refine ⟨G, io, st, env, ok, er, w.bind.impR fun st1 io1 H1 u ok1 e1 w1 x rx => ?_⟩
  cases u with
  | ref n =>
    simp only at w1
    split at w1
    · rename_i us0 hus0
      obtain ⟨a, vs0, rfl, q1, q2, q3⟩ := ref_list ok1 hus0 rx
      refine ⟨.inl ⟨rfl, vs0, .inl (.inl q2)⟩, G, io1, st1, env, ok1, er.ext ok.dj e1, w1.bind.impR fun st2 io2 H2 v ok2 e2 w2 y ry => ?_⟩
      split at w2
      · rename_i i us hus
        split at w2
        · rename_i hi
          split at w2
          · rename_i k hk
            split at w2
            · rename_i y' hy'
              obtain ⟨a', vs, ea, p1, p2, p3⟩ := ref_list ok2 hus (rx.ext e2)
              cases ea
              have et : y = .int i := by unfold Rep at ry; exact ry
              subst et
              obtain ⟨z, hz, rz⟩ := p3.get hy'
              refine ⟨a, vs, i, k, z, rfl, rfl, p2, hi.1, hi.2, by rw [← p3.length]; exact hk, hz, ?_⟩
              obtain ⟨ok3, e3⟩ := ok2.turnOb (ob' := .lst (us.eraseIdx k)) (o' := .lst (vs.eraseIdx k)) hus p1 nx_lst fun m => ⟨_, upd_same, (p3.erase k).mono m⟩
              exact w2 io2 _ ok3 e3 z (rz.ext e3)
            · exact w2.elim
          · exact w2.elim
        · exact w2.elim
      · exact w2.elim
    · exact w1.elim
  | _ => exact w1.elim
end
end D
namespace D
open PySem L2
/-- {} of the store -/
def refD0 : DE := fun _ st => .ok (.ref st.length) (st ++ [.dct [] []])
def kvsOf (ks us : List U) : Option (List (Key × U)) := if ks.length = us.length then (kOfs ks).map fun kk => kk.zip us else none
def mkOb (kvs : List (Key × U)) : Ob := .dct (kvs.map fun p => kU p.1) (kvs.map (·.2))
def valG (kvs : List (Key × U)) (k : Key) : Option U := (kvs.find? fun kv => decide (kv.1 = k)).map (·.2)
/-- o[k] = v -/
def sDPut (f g e : DE) : DS := fun env st => (e env st).out env fun v st1 => (f env st1).out env fun u st2 => (g env st2).out env fun k st3 => match u with
  | .ref n => match st3[n]?, kOf k with
    | some (.dct ks us), some kk => match kvsOf ks us with
      | some kvs => if kvs.length < sizeLine then .nx env (st3.set n (mkOb (putG kvs kk v))) else .bad
      | none => .bad
    | _, _ => .bad
  | _ => .bad
def lenDR (f : DE) : DE := fun env st => (f env st).bind fun u st1 => match u with
  | .ref n => match st1[n]? with
    | some (.dct ks _) => .ok (.int ks.length) st1
    | _ => .bad
  | _ => .bad
section
variable {K : PySem.W.Frag} {G : Addr → Prop} {W : Addr → Prop} {io : List Addr} {st : Store} {H : Hp}
theorem kvs_rep : ∀ {kvs : List (Key × V)} {us : List U}, Reps K W io H us (kvs.map (·.2)) → KR K W io H ((kvs.map (·.1)).zip us) kvs
  | [], us, r => by
    have : us = [] := List.eq_nil_of_length_eq_zero (by have := r.length; simpa using this)
    subst this; exact .nil
  | p :: kvs, us, r => by
    cases us with
    | nil => have := r.length; simp at this
    | cons u us =>
      rw [List.map_cons] at r
      obtain ⟨v, t, e, r1, r2⟩ := r.uncons
      cases e
      exact .cons ⟨rfl, r1⟩ (kvs_rep r2)
theorem ref_dct {n : Nat} {ks us : List U} {v : V} (ok : Ok K G io st H) (h : st[n]? = some (.dct ks us)) (r : Rep K (Wf G io) io H (.ref n) v) : ∃ a kvs, v = .ref a ∧ io[n]? = some a ∧ H a = some (.dK kvs) ∧ ks.length = kvs.length ∧ ∃ gs, kvsOf ks us = some gs ∧ KR K (Wf G io) io H gs kvs := by
  unfold Rep at r
  obtain ⟨a, e1, rfl⟩ := r
  obtain ⟨kvs, q1, q2, q3⟩ := ok.obs n _ a h e1
  have l : ks.length = us.length := by rw [q2, List.length_map, q3.length, List.length_map]
  refine ⟨a, kvs, rfl, e1, q1, by rw [q2, List.length_map], (kvs.map (·.1)).zip us, ?_, kvs_rep q3⟩
  unfold kvsOf
  rw [if_pos l, q2, show (kvs.map fun p => kU p.1) = (kvs.map (·.1)).map kU by rw [List.map_map]; rfl, kOfs_kU]
  rfl
theorem KR.val {k : Key} : ∀ {a : List (Key × U)} {b : List (Key × V)}, KR K W io H a b → match valV b k with
    | some v => ∃ u, valG a k = some u ∧ Rep K W io H u v
    | none => valG a k = none
  | _, _, .nil => rfl
  | _, _, .cons (a := p) (b := q) h t => by
    by_cases e : q.1 = k
    · rw [valV_pos e]
      refine ⟨p.2, ?_, h.2⟩
      unfold valG
      rw [List.find?_cons, h.1, decide_eq_true e]
      rfl
    · rw [valV_neg e]
      have := KR.val (k := k) t
      have ee : ∀ r, valG (p :: r) k = valG r k := fun r => by
        unfold valG
        rw [List.find?_cons, h.1, decide_eq_false e]
      rw [ee]
      exact this
end
section
variable {X : Cx} {xs : XS} {wx : WX} {pos : Pos}
theorem d_refD0 : PE X (.Dict [] [] pos) (tD X.K xs wx refD0) := pe_imp pe_dnewK fun sg H Q h p hp => by
  obtain ⟨G, io, st, env, ok, er, w⟩ := h
  obtain ⟨ok2, e2⟩ := ok.alloc (o := .dK []) (ob := .dct [] []) hp nx_dK ⟨[], upd_same, rfl, .nil⟩
  have w' : Wants X.K G io H (fun _ io' H' u => ∀ v, Rep X.K (Wf G io') io' H' u v → Q v H') (XW xs wx sg) (.ok (.ref st.length) (st ++ [.dct [] []])) := w
  refine w' (io ++ [p]) _ ok2 e2 (.ref p) ?_
  unfold Rep
  exact ⟨p, by rw [ok.len, List.getElem?_append_right (Nat.le_refl _)]; simp, rfl⟩
theorem s_dput {o i e : Expr} {f g h : DE} {pos' : Pos} (hu : X.A.units + 1 < cLine) (ho : PE X o (tD X.K xs wx f)) (hi : PE X i (tD X.K xs wx g)) (he : PE X e (tD X.K xs wx h)) (hs : swapsWithSole [.Subscript o i pos'] e pos.line X.env = Pure.pure false := by rfl) (hw : swappedStores [.Subscript o i pos'] e X.env = Pure.pure none := by rfl)
    (h1 : (assignEach [.Subscript o i pos'] X.env).map (·.2) = [assign (.Subscript o i pos') X.env] := by rfl)
    (ha : ∀ v, assign (.Subscript o i pos') X.env v = (do
      let ov ← holding [v] (eval o X.env)
      let iv ← holding [v, ov] (eval i X.env)
      standAt pos'
      holding [v, ov, iv] (setItem ov iv v)
      release [v, ov, iv] []) := by intro _; rfl) : PS X (.Assign [.Subscript o i pos'] e pos) (tDS X.K xs wx (sDPut f g h)) :=
  ps_imp (ps_asg he (pg_sub ho hi (set_dict hu) ha) hs hw h1) fun D sg H q => by
    obtain ⟨F, io, st, env, fr, w⟩ := q
    refine ⟨Gs F env sg, io, st, env, fr.ok, fr.er, (WantsS.expr fr w).impR fun st1 io1 H1 v ok1 e1 z x rx => ?_⟩
    refine ⟨Gs F env sg, io1, st1, env, z.1.ok, z.1.er, (WantsS.expr z.1 z.2).impR fun st2 io2 H2 u ok2 e2 z2 y ry => ?_⟩
    refine ⟨Gs F env sg, io2, st2, env, z2.1.ok, z2.1.er, (WantsS.expr z2.1 z2.2).impR fun st3 io3 H3 k ok3 e3 z3 t rt => ?_⟩
    have z4 := z3.2
    cases u with
    | ref n =>
      simp only at z4
      split at z4
      · rename_i ks us kk hd hk
        split at z4
        · rename_i gs hgs
          split at z4
          · rename_i hl
            obtain ⟨a, kvs, rfl, q1, q2, q3, gs', q4, q5⟩ := ref_dct ok3 hd (ry.ext e3)
            rw [hgs] at q4; cases q4
            have et : t = kV kk := kOf_rep rt hk
            subst et
            refine ⟨a, _, rfl, DPut.k q2 (by rw [← q5.len]; exact hl), ?_⟩
            have rp := q5.put (k := kk) ((rx.ext e2).ext e3)
            obtain ⟨f4, e4⟩ := z3.1.turnOb (ob' := mkOb (putG gs kk v)) hd q1 (o' := .dK (putK kvs kk x)) nx_dK fun m => ⟨_, upd_same, rp.keys, rp.vals.mono m⟩
            exact z4 _ _ _ f4 e4
          · exact z4.elim
        · exact z4.elim
      · exact z4.elim
    | _ => exact z4.elim
theorem d_lenDR {e : Expr} {p : Pos} {f : DE} (hg : Gl X "len") (hm : X.mg "len" = none) (he : PE X e (tD X.K xs wx f)) (hs : starEach [e] X.env = (false, eval e X.env) :: starEach [] X.env := by rfl) :
    PE X (.Call (.Name "len" p) [e] [] pos) (tD X.K xs wx (lenDR f)) := by
  refine pe_imp (pe_callB (pos := pos) (p := p) call_lenD hg hm bt_len (pa_cons he pa_nil hs) (by decide) (by decide) hs rfl) fun sg H Q h => ?_
  obtain ⟨G, io, st, env, ok, er, w⟩ := h
  refine ⟨G, io, st, env, ok, er, w.bind.impR fun st1 io1 H1 u ok1 e1 w1 v rv => ?_⟩
  cases u with
  | ref n =>
    simp only at w1
    split at w1
    · rename_i ks us hus
      obtain ⟨a, kvs, rfl, q1, q2, q3, _⟩ := ref_dct ok1 hus rv
      refine ⟨a, kvs, rfl, q2, ?_⟩
      rw [← q3]
      exact Wants.here (a := U.int (ks.length : Nat)) w1 ok1 _ (rInt _)
    · exact w1.elim
  | _ => exact w1.elim
end
def splitL (f g : DE) : DL := fun env st => (f env st).bind fun u st1 => match u with
  | .str a => (g env st1).bind fun v st2 => match v with
    | .str b => if (b.length == 0) = false ∧ a.length + 2 ≤ sizeLine then .ok ((Txt.split a b).map U.str) st2 else .bad
    | _ => .bad
  | _ => .bad
def cntD (f g : DE) : DE := fun env st => (f env st).bind fun u st1 => match u with
  | .lst us => (g env st1).bind fun v st2 => match strsU us, v with
    | some ws, .str k => .ok (.int (ws.count k : Nat)) st2
    | _, _ => .bad
  | _ => .bad
def eqs (k : Str) (v : Value) : Bool := match v with
  | .str x _ => x == k
  | _ => false
theorem eqs_gives {k : Str} {t : Tok} : ∀ {us : List Value} {ns : List Str}, Vals (ns.map V.str) us → ∀ y ∈ us, ∀ (A : Around) (s : Shared), SeqAt.EqAt A s y (.str k t) (eqs k y)
  | [], _, _ => fun y hy => nomatch hy
  | u :: us, [], h => by cases h
  | u :: us, n :: ns, h => fun y hy A s => by
    cases h with
    | cons r t' =>
      obtain ⟨t0, rfl⟩ := r
      rcases List.mem_cons.mp hy with e | e
      · rw [e]
        exact SeqAt.EqAt.str_str n t0 k t
      · exact eqs_gives t' y e A s
theorem eqs_count {k : Str} : ∀ {us : List Value} {ns : List Str}, Vals (ns.map V.str) us → us.countP (eqs k) = ns.count k
  | [], [], _ => rfl
  | [], n :: ns, h => by cases h
  | u :: us, [], h => by cases h
  | u :: us, n :: ns, h => by
    cases h with
    | cons r t' =>
      obtain ⟨t0, rfl⟩ := r
      have ih := eqs_count (k := k) t'
      rw [List.countP_cons, List.count_cons, ih]
      rfl
section
variable {X : Cx} {xs : XS} {wx : WX} {pos : Pos}
theorem mt_lcountS : MtR X "list.count" (fun x xs H Q => ∃ (p : Addr) (ns : List Str) (k : Str), x = .ref p ∧ xs = [.str k] ∧ SqL X.K H p (ns.map V.str) ∧ Q (.int (ns.count k : Nat)) H) := by
  intro pins s σ H x xs v us Q I rx rxs h
  obtain ⟨p, ns, k, rfl, rfl, hs, q⟩ := h
  cases rx
  obtain ⟨u, rfl, ru⟩ := rxs.one
  obtain ⟨t, rfl⟩ := ru
  obtain ⟨its, rv, ⟨⟨cls, dd, data, sl⟩, n, ho, hc, hdn, hd⟩, hlen⟩ := I.list hs
  simp only at hc hd
  subst hc hd
  refine call_meets PySem.F.slot_list_count ⟨_, ho, rfl⟩ PySem.F.entry_list_count (PySem.F.args_list_count_2 _ _)
    (SeqAt.list_countAt p its.toArray n dd sl (.str k t) (eqs k)) ⟨ho, fun y hy => eqs_gives rv y (by simpa using hy) _ _, ?_⟩
  have ec : its.toArray.toList.countP (eqs k) = ns.count k := by simpa using eqs_count rv
  refine ⟨.int (ns.count k : Nat), H, I.tok _, ⟨s.toks, ?_⟩, q⟩
  show Value.int ((its.toArray.toList.countP (eqs k) : Nat) : Int) s.toks = Value.int ((ns.count k : Nat) : Int) s.toks
  rw [ec]
theorem d_count {o e : Expr} {f g : DE} {apos : Pos} (ho : PE X o (tD X.K xs wx f)) (he : PE X e (tD X.K xs wx g)) (hbase : attributeBase o "count" X.env (eval o X.env) = eval o X.env := by rfl)
    (hfew : ((backTo pos (starEach [e] X.env)).all (fun x => !x.1) && (backToKw pos (keywordEach [] X.env)).all (fun x => x.1.isSome) && decide ([e].length + ([] : List Keyword).length + (if ([] : List Keyword).isEmpty then 0 else 1) < 30)) = true := by rfl)
    (hline : (apos.endLine == pos.line) = true := by rfl) (hs : starEach (e :: []) X.env = (false, eval e X.env) :: starEach [] X.env := by rfl) (hplain : (backTo pos (starEach [] X.env)).any (·.1) = false := by rfl) :
    PE X (.Call (.Attribute o "count" apos) [e] [] pos) (tD X.K xs wx (cntD f g)) :=
  pe_imp (pe_bm PySem.F.plainAttrs_list PySem.F.slot_list_count PySem.F.type_list_count mt_lcountS ho (pa_cons he pa_nil hs) hbase hfew hline hs hplain) fun sg H Q h => by
    obtain ⟨G, io, st, env, ok, er, w⟩ := h
    refine ⟨G, io, st, env, ok, er, w.bind.impR fun st1 io1 H1 u ok1 e1 w1 v rv => ?_⟩
    cases u with
    | lst us =>
      obtain ⟨a, vs, rfl, l, r'⟩ := rv.lst'
      refine ⟨.inl ⟨rfl, vs, l.sq⟩, G, io1, st1, env, ok1, er.ext ok.dj e1, (Wants.bind w1).impR fun st2 io2 H2 u2 ok2 e2 w2 v2 rv2 => ?_⟩
      split at w2
      · rename_i ws k hws
        obtain ⟨a2, vs2, ea, l2, r2⟩ := (rv.ext e2).lst'
        cases ea
        rw [strs_eq hws] at r2
        rw [Reps.ofStrs r2] at l2
        exact ⟨a, ws, k, rfl, by rw [rv2.str'], l2.sq, w2.here ok2 _ (rInt _)⟩
      · exact w2.elim
    | _ => exact w1.elim
theorem l_split {o e : Expr} {f g : DE} {apos : Pos} (ho : PE X o (tD X.K xs wx f)) (he : PE X e (tD X.K xs wx g)) (hbase : attributeBase o "split" X.env (eval o X.env) = eval o X.env := by rfl)
    (hfew : ((backTo pos (starEach [e] X.env)).all (fun x => !x.1) && (backToKw pos (keywordEach [] X.env)).all (fun x => x.1.isSome) && decide ([e].length + ([] : List Keyword).length + (if ([] : List Keyword).isEmpty then 0 else 1) < 30)) = true := by rfl)
    (hline : (apos.endLine == pos.line) = true := by rfl) (hs : starEach (e :: []) X.env = (false, eval e X.env) :: starEach [] X.env := by rfl) (hplain : (backTo pos (starEach [] X.env)).any (·.1) = false := by rfl) :
    PE X (.Call (.Attribute o "split" apos) [e] [] pos) (tDL X.K xs wx (splitL f g)) :=
  pe_imp (pe_bm PySem.F.plainAttrs_str PySem.F.slot_str_split PySem.F.type_str_split mt_split ho (pa_cons he pa_nil hs) hbase hfew hline hs hplain) fun sg H Q h => by
    obtain ⟨G, io, st, env, ok, er, w⟩ := h
    refine ⟨G, io, st, env, ok, er, w.bind.impR fun st1 io1 H1 u ok1 e1 w1 v rv => ?_⟩
    cases u with
    | str a =>
      have ev := rv.str'
      subst ev
      refine ⟨?_, G, io1, st1, env, ok1, er.ext ok.dj e1, (Wants.bind w1).impR fun st2 io2 H2 u2 ok2 e2 w2 v2 rv2 => ?_⟩
      · rfl
      cases u2 with
      | str b =>
        simp only at w2
        split at w2
        · rename_i hz
          refine ⟨a, b, rfl, by rw [rv2.str'], hz.1, hz.2, fun p hp => ?_⟩
          exact w2.here ok2 _ p (Reps.strs _) hp
        · exact w2.elim
      | _ => exact w2.elim
    | _ => exact w1.elim
end
def tabGet0 (tab : List (Str × U)) : U → Option U
  | .str x => some ((tabAt tab x).getD .non)
  | _ => none
section
variable {X : Cx} {xs : XS} {wx : WX} {pos : Pos}
theorem d_tabGet0 {x : Str} {tab : List (Str × U)} {a : Expr} {f : DE} {p apos : Pos} (T : KTab X.K X.w X.mg x tab) (hg : Gl X x) (ha : PE X a (tD X.K xs wx f)) (m : M1 X (.Name x p) "get" apos a pos := by exact ⟨rfl, rfl, rfl, rfl⟩) (hd : (x == ("__debug__" : Str)) = false := by decide) :
    PE X (.Call (.Attribute (.Name x p) "get" apos) [a] [] pos) (tD X.K xs wx (ap1 (tabGet0 tab) f)) := by
  obtain ⟨d, es, n, hm, D, hk⟩ := T
  refine pe_imp (⟨fun pins s σ H Q I h => ?_⟩ : PE X _ (fun σ H Q => tD X.K xs wx f σ H fun v H1 => ∃ (z : Str) (r : Option Value) (u0 : V), v = .str z ∧ PySem.W.nsIn X.K d z = some r ∧ RelV u0 (r.getD .none) ∧ Q u0 H1)) fun sg H Q h => ?_
  · refine wpAny_Call_method m.base m.few m.line PySem.F.plainAttrs_dict PySem.F.slot_dict_get PySem.F.type_dict_get (thn ((pe_glob (v := .ref d) hg hm rfl hd).run pins s σ H (fun x H1 => x = .ref d ∧ H1 = H) I ⟨rfl, rfl⟩) fun u s1 ⟨x, H1, I1, rx, ex, eH⟩ => ?_)
    subst ex
    subst eH
    obtain rfl : u = Value.ref d := rx
    have mo := fun (s : Shared) (kin : X.K.In s.heap) => PySem.W.mapOf_K (prog := X.prog) (w := X.w) kin D.at_ D.lit
    refine ⟨(mo s1 I1.kIn).typeIs, fun b q => ?_, ?_⟩
    · cases q
      exact ⟨_, I1.kIn _ _ D.at_, rfl⟩
    rw [m.trees]
    refine wpAny_dict_get1 (knd := strKind X.prog X.w) D.low (thn (ha.run pins s1 σ H1 _ I1 h) fun iv s2 ⟨y, H2, I2, ry, z, r, u0, ey, en, ru, q⟩ => ?_)
    subst ey
    obtain ⟨t, rfl⟩ := ry
    refine ⟨z, _, PySem.strKind_is X.prog X.w z t, mo s2 I2.kIn, ?_⟩
    rw [PySem.W.find_K D.at_ en]
    exact ⟨u0, H2, I2.tok _, ru, q⟩
  · refine tD_imp (ap1_read h) fun v H1 q => ?_
    obtain ⟨G, io, st, u1, u, ok, rv, hu, fin⟩ := q
    unfold tabGet0 at hu
    split at hu
    · rename_i z
      cases hu
      have q := kd_ns D hk z
      cases ht : tabAt tab z with
      | none =>
        rw [ht] at q fin
        exact ⟨z, none, .non, rv.str', q, rfl, fin .non H1 (fun _ _ e => e) (by show Rep _ _ _ _ U.non _; unfold Rep; rfl)⟩
      | some u =>
        rw [ht] at q fin
        obtain ⟨v', x', q1, q2, q3⟩ := q
        exact ⟨z, some v', x', rv.str', q1, q2, fin x' H1 (fun _ _ e => e) (q3 _ _ _)⟩
    · cases hu
end
end D
namespace D
open PySem L2
section
variable {X : Cx} {xs : XS} {wx : WX} {pos : Pos} {tg : Expr}
theorem comp_rest {vs : List Nat} {t : Tg} {c : DT} {e : DE} {sg : L2.St} {H1 : Hp} {Q : VK} {G : Addr → Prop} {io1 : List Addr} {st1 : Store} {env : Env} {us : List U} {J : It} (hvs : ∀ u l, t u = some l → ∀ p ∈ l, p.1 ∈ vs)
    (ok1 : Ok X.K G io1 st1 H1) (er : EnvRep X.K G io1 H1 env sg) (wk : Wk X.K G J io1 H1 us) (hz : us.length ≤ sizeLine)
    (w1 : Wants X.K G io1 H1 (fun _ io' H' ws => ∀ vs a, Reps X.K (Wf G io') io' H' ws vs → H' a = none → Q (.ref a) (upd H' a (.lst vs))) (XW xs wx sg) (noEx (compL t c e us (wipeE env vs) st1))) :
    tLc (fun _ H R => R J H) (gD X.K t) (tDT X.K xs wF c) (tD X.K xs wF e) vs sg H1 Q := by
  intro D hD
  have nG : ¬ Wf G io1 D := ok1.fresh hD
  have er1 : EnvRep X.K G io1 H1 (wipeE env vs) (L2.wipe sg vs) := er.wipe vs
  have hH : hid (upd H1 D (.lst [])) D = H1 := by rw [hid_upd, hid_none hD]
  refine ⟨fun i m H' => ∃ io' st' acc accv, Ok X.K G io' st' (hid H' D) ∧ Ext io1 H1 io' (hid H' D) ∧ H' D = some (.lst accv) ∧ Reps X.K (Wf G io') io' (hid H' D) acc accv ∧ acc.length ≤ i ∧ i + m = us.length ∧
      Wants X.K G io' (hid H' D) (fun _ io'' H'' ws => ∀ vs a, Reps X.K (Wf G io'') io'' H'' (acc ++ ws) vs → H'' a = none → Q (.ref a) (upd H'' a (.lst vs))) (XW xs wx sg) (noEx (compL t c e (us.drop i) (wipeE env vs) st')),
    ⟨us.length, io1, st1, [], [], by rw [hH]; exact ok1, by rw [hH]; exact Ext.refl _ _, upd_same, .nil, by simp, by omega, ?_⟩, fun i m H' hW => ?_⟩
  · rw [hH]
    exact w1.impR fun st' io' H' ws _ _ q => q
  obtain ⟨io', st', acc, accv, ok', ex', hD', ra, hai, hm, w'⟩ := hW
  have nio : D ∉ io' := fun z => by
    obtain ⟨o, q, _⟩ := ok'.trk D (.inr z)
    exact (hid_some q).1 rfl
  have okE : Ok X.K (Gd G D) io' st' H' := ok'.enter hD' nx_lst
  have mE : Mono G io1 H1 (Gd G D) io' H' := ex'.mono.trans mono_enter
  have erE : EnvRep X.K (Gd G D) io' H' (wipeE env vs) (L2.wipe sg vs) := (er1.ext ok1.dj ex').enter
  by_cases hi : i < us.length
  · obtain ⟨hgo, hy⟩ := wk.go i _ io' st' H' okE mE hi
    refine .inr ⟨hgo, _, fun H2 hN => ⟨m - 1, by omega, hN⟩, fun x H'' y => ?_⟩
    obtain ⟨sm, u, hu, ru⟩ := hy x H'' y
    have ok2 := okE.same sm
    have ex2 : Ext io' H' io' H'' := Ext.same sm
    have er2 : EnvRep X.K (Gd G D) io' H'' (wipeE env vs) (L2.wipe sg vs) := erE.ext okE.dj ex2
    rw [List.drop_eq_getElem_cons hi] at w'
    have hu' : us[i] = u := Option.some.inj ((List.getElem?_eq_getElem hi).symm.trans hu)
    rw [hu'] at w'
    unfold compL at w'
    cases ht : t u with
    | none => rw [ht] at w'; exact w'.elim
    | some l =>
      rw [ht] at w'
      simp only at w'
      refine ⟨Gd G D, io', u, l, ru, ht, fun lvs rvs => ⟨?_, ?_⟩⟩
      · rw [wipe_setS _ _ _ fun p hp => ?_, wipe_wipe]
        have hp1 : p.1 ∈ l.map (·.1) := (List.of_mem_zip hp).1
        obtain ⟨q, hq, e⟩ := List.mem_map.mp hp1
        rw [← e]
        exact hvs u l ht q hq
      have er3 := EnvRep.setAll l lvs er2 rvs
      have w2 := w'.later (Ext.leave (D := D) ex2)
      rw [noEx_bind] at w2
      -- the test
      have lift : ∀ {A : Type} {R : Store → List Addr → Hp → A → Prop} {XR} {r : Rs A} {io' : List Addr} {H' : Hp}, Wants X.K G io' (hid H' D) R XR (noEx r) → Wants X.K (Gd G D) io' H' (fun st2 io2 H2 a => Ok X.K G io2 st2 (hid H2 D) ∧ Ext io' (hid H' D) io2 (hid H2 D) ∧ R st2 io2 (hid H2 D) a) (XW xs wF (setS (L2.wipe sg vs) ((l.map (·.1)).zip lvs))) r := by
        intro A R XR r io' H' h
        cases r with
        | ok a st2 => exact fun io2 H2 o2 e2 => ⟨o2.leave fun z => nG (.inl z), e2.leave, h io2 _ (o2.leave fun z => nG (.inl z)) e2.leave⟩
        | ex _ _ _ => exact h.elim
        | bad => exact h
      have d2 : H'' D = some (.lst accv) := sm _ _ hD'
      refine ⟨Gd G D, io', st', _, ok2, er3, (lift w2.bind).impR fun st3 io3 H3 b ok3 e3 q => ?_⟩
      have d3 : H3 D = some (.lst accv) := e3.keep D _ nio d2
      have nio3 : D ∉ io3 := fun z => ok3.dj D z (.inr rfl)
      have exA : Ext io1 H1 io3 (hid H3 D) := (ex'.trans (Ext.leave (D := D) ex2)).trans q.2.1
      obtain ⟨q1, q2, q3⟩ := q
      cases b with
      | false => exact ⟨io3, st3, acc, accv, q1, exA, d3, (ra.ext (Ext.leave (D := D) ex2)).ext q2, by omega, by omega, q3⟩
      | true =>
        simp only [if_true] at q3
        rw [noEx_bind] at q3
        refine ⟨Gd G D, io3, st3, _, ok3, er3.ext ok2.dj e3, (lift q3.bind).impR fun st4 io4 H4 v ok4 e4 q4 y ry => ?_⟩
        obtain ⟨p1, p2, p3⟩ := q4
        have d4 : H4 D = some (.lst accv) := e4.keep D _ nio3 d3
        have rA := ((ra.ext (Ext.leave (D := D) ex2)).ext q2).ext p2
        refine ⟨accv, d4, ?_, io4, st4, acc ++ [v], accv ++ [y], ?_, ?_, upd_same, ?_, by simp; omega, by omega, ?_⟩
        · rw [← ra.length]; omega
        · rw [hid_upd]; exact p1
        · rw [hid_upd]; exact exA.trans p2
        · rw [hid_upd]; exact rA.append (.cons (ry.mono mono_leave) .nil)
        · rw [hid_upd]
          rw [noEx_bind] at p3
          refine p3.bind.impR fun st5 io5 H5 ws ok5 e5 q5 => ?_
          have q6 := Wants.here (a := v :: ws) q5 ok5
          intro vs' a' r' n'
          exact q6 vs' a' (by rw [List.append_assoc] at r'; exact r') n'
  · refine .inl ⟨wk.stop i _ io' st' H' okE mE (Nat.le_of_not_lt hi), ?_⟩
    rw [List.drop_eq_nil_of_le (Nat.le_of_not_lt hi)] at w'
    have q := Wants.here (a := ([] : List U)) w' ok' accv D (by rw [List.append_nil]; exact ra) hid_same
    rw [upd_hid hD'] at q
    exact q
/-- what of the slots is plain -/
def viewE (env : Env) : Env := env.map fun s => match s with
  | .val u => if noRef u = true then .val u else .un
  | _ => .un
theorem view_env {K : PySem.W.Frag} {G : Addr → Prop} {io : List Addr} {st : Store} {H : Hp} {env : Env} {sg : L2.St} (er : EnvRep K G io H env sg) : EnvRep K (Wv G io st) [] H (viewE env) sg := ⟨by unfold viewE; rw [List.length_map]; exact er.len, fun i s o e1 e2 => by
  unfold viewE at e1
  rw [List.getElem?_map, Option.map_eq_some_iff] at e1
  obtain ⟨s', e1, rfl⟩ := e1
  cases s' with
  | val u =>
    simp only
    split
    · rename_i hn
      obtain ⟨v, q1, q2⟩ := er.sl i _ o e1 e2
      exact ⟨v, q1, Rep.io_any wv_sub u v hn q2⟩
    · trivial
  | un => trivial
  | own us => trivial⟩
/-- [e for t in o if c], o a list of the store, with flat items -/
def compV (f : DE) (vs : List Nat) (t : Tg) (c : DT) (e : DE) : DL := fun env st => (f env st).bind fun u st1 => match u with
  | .ref n => match st1[n]? with
    | some (.lst us) => if us.length ≤ sizeLine ∧ noRefs us = true then match noEx (compL t c e us (wipeE (viewE env) vs) []) with
      | .ok ws [] => if ws.all flatU = true then .ok ws st1 else .bad
      | _ => .bad
      else .bad
    | _ => .bad
  | _ => .bad
theorem flats_any {K : PySem.W.Frag} {W W' : Addr → Prop} {io io' : List Addr} {H H' : Hp} : ∀ {us : List U} {vs : List V}, us.all flatU = true → Reps K W io H us vs → Reps K W' io' H' us vs
  | [], vs, _, r => by rw [r.isNil]; exact .nil
  | u :: us, vs, h, r => by
    obtain ⟨v, t, rfl, r1, r2⟩ := r.uncons
    rw [List.all_cons, Bool.and_eq_true] at h
    exact .cons (flat_any h.1 r1) (flats_any h.2 r2)
theorem i_ref {e : Expr} {f : DE} (h : PE X e (tD X.K xs wx f)) : PI X tg e (fun sg H R => tD X.K xs wx f sg H fun x H1 => ∃ a, x = .ref a ∧ (∃ ys, SqL X.K H1 a ys) ∧ R (Itl X.K a) H1) :=
  ⟨fun pins s sg H R I q => thn (h.run pins s sg H _ I q) fun v s1 ⟨x, H1, I1, r1, q1⟩ => it_list pins s1 sg H1 x v R I1 r1 q1⟩
theorem l_compV {elt iter : Expr} {ifs : List Expr} {scope : Scope} {own : List (Str × Nat)} {f : DE} {t : Tg} {c : DT} {e : DE} (hc : X.calm = true) (hN : X.N.Nodup) (hi : PE X iter (tD X.K xs wx f)) (ok : BlkOk X.N X.env.scope scope own)
    (hvs : ∀ u l, t u = some l → ∀ p ∈ l, p.1 ∈ own.map (·.2))
    (hg : ∀ (s : Shared) (H : Hp) (C : Addr) (cl : List (Str × Addr)) (fp : List Addr), PG (X.blk s H scope (compEnvC scope cl C X.env) fp) tg (gD X.K t)) (ht : ∀ (s : Shared) (H : Hp) (C : Addr) (cl : List (Str × Addr)) (fp : List Addr), PTs (X.blk s H scope (compEnvC scope cl C X.env) fp) ifs (tDT X.K xs wF c))
    (he : ∀ (s : Shared) (H : Hp) (C : Addr) (cl : List (Str × Addr)) (fp : List Addr), PE (X.blk s H scope (compEnvC scope cl C X.env) fp) elt (tD X.K xs wF e)) (hs : ∀ x, foldedSetIterable iter X.env x = Pure.pure x := by intro _; rfl) :
    PE X (.ListComp elt [⟨tg, iter, ifs, 0⟩] scope pos) (tDL X.K xs wx (compV f (own.map (·.2)) t c e)) := pe_imp (pe_lc hc hN (i_ref hi) ok hg ht he hs) fun sg H Q h => by
  obtain ⟨G, io, st, env, ok, er, w⟩ := h
  refine ⟨G, io, st, env, ok, er, w.bind.impR fun st1 io1 H1 u ok1 e1 w1 v rv => ?_⟩
  cases u with
  | ref n =>
    simp only at w1
    split at w1
    · rename_i us hus
      split at w1
      · rename_i hz
        obtain ⟨a, vs, rfl, q1, q2, q3⟩ := ref_list ok1 hus rv
        refine ⟨a, rfl, ⟨vs, .inl (.inl q2)⟩, ?_⟩
        have rs : Reps X.K (Wf (Wv G io1 st1) []) [] H1 us vs := Reps.io_any wv_sub us vs hz.2 q3
        have ll : LL X.K (Wf (Wv G io1 st1) []) H1 a vs := ⟨q2, fun z => by
          rcases z with z | z
          · exact z.2 ⟨n, us, hus, q1⟩
          · cases z⟩
        refine comp_rest (xs := xs) (wx := wx) (G := Wv G io1 st1) (io1 := []) (st1 := []) (env := viewE env) (J := Itl X.K a) hvs ok1.view (view_env (er.ext ok.dj e1)) (wk_list ll rs) hz.1 ?_
        cases hC : noEx (compL t c e us (wipeE (viewE env) (own.map (·.2))) []) with
        | bad => rw [hC] at w1; exact w1.elim
        | ex a b s => rw [hC] at w1; exact w1.elim
        | ok ws s =>
          rw [hC] at w1
          cases s with
          | cons ob s => exact w1.elim
          | nil =>
            simp only at w1
            split at w1
            · rename_i hf
              intro io' H' ok2 e2 vs' a' rv' na'
              have hio : io' = [] := List.length_eq_zero_iff.mp (by rw [← ok2.len]; rfl)
              subst hio
              have sm : Same H1 H' := fun a o e => e2.keep a o (fun z => nomatch z) e
              exact w1.hereS ok1 sm vs' a' (flats_any hf rv') na'
            · exact w1.elim
      · exact w1.elim
    · exact w1.elim
  | _ => exact w1.elim
end
def intAN : List U → Option U
  | [.str a] => if a.length ≤ 640 then (PySem.intText? a).map U.int else none
  | us => intN us
section
variable {X : Cx}
theorem c_intA : CallR X (.type "int") (PN X.K intAN) := by
  intro pins s sg H vs us Q I r h
  obtain ⟨G, io, st, ws, u, ok, rs, e, q⟩ := h
  unfold intAN at e
  split at e
  · rename_i a
    split at e
    · rename_i hl
      obtain ⟨n, hn, rfl⟩ := Option.map_eq_some_iff.mp e
      obtain ⟨v, rfl, rv⟩ := rs.one
      have e1 := rv.str'; subst e1
      exact call_int_str pins s sg H _ us Q I r ⟨a, n, rfl, hn, hl, q _ H (Same.refl H) (rInt _)⟩
    · cases e
  · exact c_int pins s sg H vs us Q I r ⟨G, io, st, ws, u, ok, rs, e, q⟩
end
@[simp] theorem appV_ap (g : List U → Store → Rs U) (fa : DA) (env : Env) (st : Store) : appV g fa env st = (fa env st).bind fun us st1 => if noRefs (us.map (der1 st1)) = true then match g (us.map (der1 st1)) [] with
  | .ok u [] => if tupU u = true then .ok u st1 else .bad
  | _ => .bad
  else .bad := (rfl)
@[simp] theorem binV_ap (g : U → U → Option U) (a b : DE) (env : Env) (st : Store) : binV g a b env st = (a env st).bind fun u st1 => (b env st1).bind fun v st2 => if noRef (der1 st2 u) = true ∧ noRef (der1 st2 v) = true then Rs.of (flat1 (g (der1 st2 u) (der1 st2 v))) st2 else .bad := (rfl)
@[simp] theorem tupR_ap (f : DE) (env : Env) (st : Store) : tupR f env st = (f env st).bind fun u st1 => match u with
  | .ref n => match st1[n]? with
    | some (.lst us) => .ok (.tup us) st1
    | _ => .bad
  | _ => .bad := (rfl)
@[simp] theorem sAppR_ap (f g : DE) (env : Env) (st : Store) : sAppR f g env st = (f env st).out env fun u st1 => match u with
  | .ref n => match st1[n]? with
    | some (.lst _) => (g env st1).out env fun v st2 => match st2[n]? with
      | some (.lst us) => if us.length < 16777216 then .nx env (st2.set n (.lst (us ++ [v]))) else .bad
      | _ => .bad
    | _ => .bad
  | _ => .bad := by rw [← sizeLine_val]; rfl
@[simp] theorem popR_ap (f g : DE) (env : Env) (st : Store) : popR f g env st = (f env st).bind fun u st1 => match u with
  | .ref n => match st1[n]? with
    | some (.lst _) => (g env st1).bind fun v st2 => match v, st2[n]? with
      | .int i, some (.lst us) => if -(2 ^ 63) ≤ i ∧ i < 2 ^ 63 then match seqIndex? i us.length with
        | some k => match us[k]? with
          | some y => .ok y (st2.set n (.lst (us.eraseIdx k)))
          | none => .bad
        | none => .bad
        else .bad
      | _, _ => .bad
    | _ => .bad
  | _ => .bad := (rfl)
@[simp] theorem refD0_ap (env : Env) (st : Store) : refD0 env st = .ok (.ref st.length) (st ++ [.dct [] []]) := (rfl)
@[simp] theorem sDPut_ap (f g e : DE) (env : Env) (st : Store) : sDPut f g e env st = (e env st).out env fun v st1 => (f env st1).out env fun u st2 => (g env st2).out env fun k st3 => match u with
  | .ref n => match st3[n]?, kOf k with
    | some (.dct ks us), some kk => match kvsOf ks us with
      | some kvs => if kvs.length < 16777216 then .nx env (st3.set n (mkOb (putG kvs kk v))) else .bad
      | none => .bad
    | _, _ => .bad
  | _ => .bad := by rw [← sizeLine_val]; rfl
@[simp] theorem lenDR_ap (f : DE) (env : Env) (st : Store) : lenDR f env st = (f env st).bind fun u st1 => match u with
  | .ref n => match st1[n]? with
    | some (.dct ks _) => .ok (.int ks.length) st1
    | _ => .bad
  | _ => .bad := (rfl)
@[simp] theorem splitL_ap (f g : DE) (env : Env) (st : Store) : splitL f g env st = (f env st).bind fun u st1 => match u with
  | .str a => (g env st1).bind fun v st2 => match v with
    | .str b => if (b.length == 0) = false ∧ a.length + 2 ≤ 16777216 then .ok ((Txt.split a b).map U.str) st2 else .bad
    | _ => .bad
  | _ => .bad := by rw [← sizeLine_val]; rfl
@[simp] theorem cntD_ap (f g : DE) (env : Env) (st : Store) : cntD f g env st = (f env st).bind fun u st1 => match u with
  | .lst us => (g env st1).bind fun v st2 => match strsU us, v with
    | some ws, .str k => .ok (.int (ws.count k : Nat)) st2
    | _, _ => .bad
  | _ => .bad := (rfl)
@[simp] theorem compV_ap (f : DE) (vs : List Nat) (t : Tg) (c : DT) (e : DE) (env : Env) (st : Store) : compV f vs t c e env st = (f env st).bind fun u st1 => match u with
  | .ref n => match st1[n]? with
    | some (.lst us) => if us.length ≤ 16777216 ∧ noRefs us = true then match noEx (compL t c e us (wipeE (viewE env) vs) []) with
      | .ok ws [] => if ws.all flatU = true then .ok ws st1 else .bad
      | _ => .bad
      else .bad
    | _ => .bad
  | _ => .bad := by rw [← sizeLine_val]; rfl
end D
namespace D
open PySem L2
end D
namespace D
open PySem L2
section
variable {X : Cx} {pins : List (Addr × Obj)} {sg : L2.St} {H : Hp} {s : Shared} {W : Addr → Prop} {io : List Addr}
/-- a dict as the heap has it -/
def DK (H : Hp) (a : Addr) (kvs : List (Key × V)) : Prop := Rd H a (.dK kvs) ∨ (H a = some (.dT []) ∧ kvs = [])
theorem DK.inj {a : Addr} {k1 k2 : List (Key × V)} (h1 : DK H a k1) (h2 : DK H a k2) : k1 = k2 := by
  rcases h1 with (h | ⟨o, h⟩) | ⟨h, rfl⟩ <;> rcases h2 with (g | ⟨o', g⟩) | ⟨g, rfl⟩ <;> rw [h] at g <;> first | (cases g; rfl) | cases g
end
end D
namespace D
open PySem L2
def derF : Nat → Store → U → U
  | 0, _, u => u
  | n + 1, st, .ref k => match st[k]? with
    | some (.lst us) => .lst (us.map (derF n st))
    | some (.dct ks us) => .dct ks (us.map (derF n st))
    | some (.dcT (k0 :: ks) us) => .dct ((k0 :: ks).map U.tup) (us.map (derF n st))
    | _ => .ref k
  | n + 1, st, .tup us => .tup (us.map (derF n st))
  | n + 1, st, .lst us => .lst (us.map (derF n st))
  | n + 1, st, .dct ks us => .dct ks (us.map (derF n st))
  | _ + 1, _, u => u
abbrev der (st : Store) (u : U) : U := derF 12 st u
/-- f(..), what the store has being lent as plain data; what is told is made of tuples -/
def appW (g : List U → Store → Rs U) (fa : DA) : DE := fun env st => (fa env st).bind fun us st1 => if noRefs (us.map (der st1)) = true then match g (us.map (der st1)) [] with
  | .ok u [] => if tupU u = true then .ok u st1 else .bad
  | .ex c fs [] => .ex c fs st1
  | _ => .bad
  else .bad
def binW (g : U → U → Option U) (a b : DE) : DE := fun env st => (a env st).bind fun u st1 => (b env st1).bind fun v st2 => if noRef (der st2 u) = true ∧ noRef (der st2 v) = true then Rs.of (flat1 (g (der st2 u) (der st2 v))) st2 else .bad
end D
namespace D
open PySem L2
/-- what a dict has, by keys ints and texts -/
def dictAt (st : Store) : U → Option (List (Key × U))
  | .dct ks us => kvsOf ks us
  | .ref n => match st[n]? with
    | some (.dct ks us) => kvsOf ks us
    | _ => none
  | _ => none
/-- d.get(k, e) -/
def getG (f g e : DE) : DE := fun env st => (f env st).bind fun u st1 => match dictAt st1 u with
  | none => .bad
  | some _ => (g env st1).bind fun k st2 => (e env st2).bind fun d st3 => match dictAt st3 u, kOf k with
    | some kvs, some kk => .ok ((valG kvs kk).getD d) st3
    | _, _ => .bad
/-- o[k], whatever o is -/
def getU (st : Store) (u k : U) : Option U := match u with
  | .ref n => match st[n]? with
    | some (.lst us) => match k with
      | .int i => atI us i
      | _ => none
    | some (.dct ks us) => (kvsOf ks us).bind fun g => (kOf k).bind fun kk => valG g kk
    | _ => none
  | .dct ks us => (kvsOf ks us).bind fun g => (kOf k).bind fun kk => valG g kk
  | u => ix2 u k
def ixG (f g : DE) : DE := fun env st => (f env st).bind fun u st1 => (g env st1).bind fun k st2 => Rs.of (getU st2 u k) st2
/-- k in o -/
def inU (st : Store) (k u : U) : Option Bool := match u with
  | .ref n => match st[n]? with
    | some (.dct ks us) => (kvsOf ks us).bind fun g => (kOf k).map fun kk => (valG g kk).isSome
    | _ => none
  | .dct ks us => (kvsOf ks us).bind fun g => (kOf k).map fun kk => (valG g kk).isSome
  | u => match in2 k u with
    | some (.bl b) => some b
    | _ => none
def inG (f g : DE) : DE := fun env st => (f env st).bind fun k st1 => (g env st1).bind fun u st2 => Rs.of ((inU st2 k u).map U.bl) st2
def ninG (f g : DE) : DE := fun env st => (f env st).bind fun k st1 => (g env st1).bind fun u st2 => Rs.of ((inU st2 k u).map fun b => U.bl (!b)) st2
/-- o[k] = e, o a list or a dict of the store -/
def putO (ob : Ob) (k v : U) : Option Ob := match ob with
  | .lst us => match k with
    | .int i => (ixN us.length i).map fun j => .lst (us.set j v)
    | _ => none
  | .dct ks us => (kvsOf ks us).bind fun g => (kOf k).bind fun kk => if g.length < sizeLine then some (mkOb (putG g kk v)) else none
  | _ => none
def sPutG (f g e : DE) : DS := fun env st => (e env st).out env fun v st1 => (f env st1).out env fun u st2 => (g env st2).out env fun k st3 => match u with
  | .ref n => match st3[n]? with
    | some ob => match putO ob k v with
      | some ob' => .nx env (st3.set n ob')
      | none => .bad
    | none => .bad
  | _ => .bad
abbrev DKv := Env → Store → Rs (List (Key × U))
def newD (f : DKv) : DE := fun env st => (f env st).bind fun g st1 => .ok (mkD g) st1
def refDn (f : DKv) : DE := fun env st => (f env st).bind fun g st1 => .ok (.ref st1.length) (st1 ++ [mkOb g])
def cpyK (f : DE) : DKv := fun env st => (f env st).bind fun u st1 => Rs.of (dictAt st1 u) st1
@[simp] theorem getG_ap (f g e : DE) (env : Env) (st : Store) : getG f g e env st = (f env st).bind fun u st1 => match dictAt st1 u with
  | none => .bad
  | some _ => (g env st1).bind fun k st2 => (e env st2).bind fun d st3 => match dictAt st3 u, kOf k with
    | some kvs, some kk => .ok ((valG kvs kk).getD d) st3
    | _, _ => .bad := (rfl)
@[simp] theorem ixG_ap (f g : DE) (env : Env) (st : Store) : ixG f g env st = (f env st).bind fun u st1 => (g env st1).bind fun k st2 => Rs.of (getU st2 u k) st2 := (rfl)
@[simp] theorem inG_ap (f g : DE) (env : Env) (st : Store) : inG f g env st = (f env st).bind fun k st1 => (g env st1).bind fun u st2 => Rs.of ((inU st2 k u).map U.bl) st2 := (rfl)
@[simp] theorem ninG_ap (f g : DE) (env : Env) (st : Store) : ninG f g env st = (f env st).bind fun k st1 => (g env st1).bind fun u st2 => Rs.of ((inU st2 k u).map fun b => U.bl (!b)) st2 := (rfl)
@[simp] theorem sPutG_ap (f g e : DE) (env : Env) (st : Store) : sPutG f g e env st = (e env st).out env fun v st1 => (f env st1).out env fun u st2 => (g env st2).out env fun k st3 => match u with
  | .ref n => match st3[n]? with
    | some ob => match putO ob k v with
      | some ob' => .nx env (st3.set n ob')
      | none => .bad
    | none => .bad
  | _ => .bad := (rfl)
@[simp] theorem newD_ap (f : DKv) (env : Env) (st : Store) : newD f env st = (f env st).bind fun g st1 => .ok (mkD g) st1 := (rfl)
@[simp] theorem refDn_ap (f : DKv) (env : Env) (st : Store) : refDn f env st = (f env st).bind fun g st1 => .ok (.ref st1.length) (st1 ++ [mkOb g]) := (rfl)
@[simp] theorem cpyK_ap (f : DE) (env : Env) (st : Store) : cpyK f env st = (f env st).bind fun u st1 => Rs.of (dictAt st1 u) st1 := (rfl)
@[simp] theorem appW_ap (g : List U → Store → Rs U) (fa : DA) (env : Env) (st : Store) : appW g fa env st = (fa env st).bind fun us st1 => if noRefs (us.map (der st1)) = true then match g (us.map (der st1)) [] with
  | .ok u [] => if tupU u = true then .ok u st1 else .bad
  | .ex c fs [] => .ex c fs st1
  | _ => .bad
  else .bad := (rfl)
@[simp] theorem binW_ap (g : U → U → Option U) (a b : DE) (env : Env) (st : Store) : binW g a b env st = (a env st).bind fun u st1 => (b env st1).bind fun v st2 => if noRef (der st2 u) = true ∧ noRef (der st2 v) = true then Rs.of (flat1 (g (der st2 u) (der st2 v))) st2 else .bad := (rfl)
end D
namespace D
open PySem L2
/-- an iterator that can be drawn from once more -/
structure Drw (prog : Program) (w : World) (i l : Addr) (I J : Heap → Prop) (x : Value) : Prop where
  draw : ∀ (A : Around) (E : Value → Shared → Prop) (s : Shared) (Q : Value → Shared → Prop), I s.heap → (∀ h', J h' → Heap.SameBut i s.heap h' → Q x { heap := h', gens := s.gens, drawn := s.drawn, toks := s.toks, os := s.os }) → wpAny (model prog w) A (Builtin.SmallTypes.nextOf (Value.ref i)) Q E s
  atI : ∀ h h', I h → (∀ o, h.get? i = some o → h'.get? i = some o) → (∀ o, h.get? l = some o → h'.get? l = some o) → I h'
  atJ : ∀ h h', J h → (∀ o, h.get? i = some o → h'.get? i = some o) → (∀ o, h.get? l = some o → h'.get? l = some o) → J h'
structure DrwE (prog : Program) (w : World) (i l : Addr) (I : Heap → Prop) : Prop where
  draw : ∀ (A : Around) (E : Value → Shared → Prop) (s : Shared) (Q : Value → Shared → Prop), A.handled = none → I s.heap → (∀ h' e, Heap.ExtBut i s.heap h' → (∃ o, h'.get? e = some o ∧ o.cls = Value.type "StopIteration") → E (Value.ref e) { heap := h', gens := s.gens, drawn := s.drawn, toks := s.toks, os := s.os }) → wpAny (model prog w) A (Builtin.SmallTypes.nextOf (Value.ref i)) Q E s
  atI : ∀ h h', I h → (∀ o, h.get? i = some o → h'.get? i = some o) → (∀ o, h.get? l = some o → h'.get? l = some o) → I h'
/-- an iterator over items -/
structure Itr (prog : Program) (w : World) (i l : Addr) (xs : Array Value) (S : Nat → Heap → Prop) : Prop where
  item : ∀ k x, xs[k]? = some x → Drw prog w i l (S k) (S (k + 1)) x
  stop : ∀ k, xs[k]? = none → DrwE prog w i l (S k)
  there : ∀ k h, S k h → (∃ o, h.get? i = some o) ∧ ∃ o, h.get? l = some o
  at_ : ∀ k h h', S k h → (∀ o, h.get? i = some o → h'.get? i = some o) → (∀ o, h.get? l = some o → h'.get? l = some o) → S k h'
theorem itr_list {prog : Program} {w : World} {i l : Addr} {xs : Array Value} (ne : l ≠ i) : Itr prog w i l xs (fun k h => h.IsListIter i l k ∧ h.IsList l xs) := by
  have at_ : ∀ k (h h' : Heap), (h.IsListIter i l k ∧ h.IsList l xs) → (∀ o, h.get? i = some o → h'.get? i = some o) → (∀ o, h.get? l = some o → h'.get? l = some o) → h'.IsListIter i l k ∧ h'.IsList l xs := fun k h h' q q1 q2 => ⟨q.1.at q1, let ⟨o, a, b⟩ := q.2; ⟨o, q2 o a, b⟩⟩
  refine ⟨fun k x hx => ⟨fun A E s Q q c => ?_, at_ k, at_ (k + 1)⟩, fun k hx => ⟨fun A E s Q hA q c => ?_, at_ k⟩, fun k h q => ⟨let ⟨o, a, _⟩ := q.1; ⟨o, a⟩, let ⟨o, a, _⟩ := q.2; ⟨o, a⟩⟩, at_⟩
  · exact wpAny_nextOf_list_item q.1 q.2 hx fun h' j sb => c h' ⟨j, let ⟨o, a, b⟩ := q.2; ⟨o, (sb.2 _ ne).trans a, b⟩⟩ sb
  · exact wpAny_nextOf_list_end hA q.1 q.2 hx c
theorem itr_tuple {prog : Program} {w : World} {i l : Addr} {xs : Array Value} (ne : l ≠ i) : Itr prog w i l xs (fun k h => h.IsTupleIter i l k ∧ h.IsTuple l xs) := by
  have at_ : ∀ k (h h' : Heap), (h.IsTupleIter i l k ∧ h.IsTuple l xs) → (∀ o, h.get? i = some o → h'.get? i = some o) → (∀ o, h.get? l = some o → h'.get? l = some o) → h'.IsTupleIter i l k ∧ h'.IsTuple l xs := fun k h h' q q1 q2 => ⟨let ⟨o, a, b⟩ := q.1; ⟨o, q1 o a, b⟩, let ⟨o, a, b⟩ := q.2; ⟨o, q2 o a, b⟩⟩
  refine ⟨fun k x hx => ⟨fun A E s Q q c => ?_, at_ k, at_ (k + 1)⟩, fun k hx => ⟨fun A E s Q hA q c => ?_, at_ k⟩, fun k h q => ⟨let ⟨o, a, _⟩ := q.1; ⟨o, a⟩, let ⟨o, a, _⟩ := q.2; ⟨o, a⟩⟩, at_⟩
  · exact wpAny_nextOf_tuple_item q.1 q.2 hx fun h' j sb => c h' ⟨j, let ⟨o, a, b⟩ := q.2; ⟨o, (sb.2 _ ne).trans a, b⟩⟩ sb
  · exact wpAny_nextOf_tuple_end hA q.1 q.2 hx c
def seqAt (st : Store) : U → Option (List U)
  | .tup us => some us
  | .lst us => some us
  | .scr ns => some (ns.map U.int)
  | .ref n => match st[n]? with
    | some (.lst us) => some us
    | _ => none
  | _ => none
def zipKV (st : Store) : List U → Option (List (Key × U))
  | [u, v] => (seqAt st u).bind fun ks => (kOfs ks).bind fun kk => (seqAt st v).map fun vs => mergeG [] (kk.zip vs)
  | _ => none
def zipK (f : DA) : DKv := fun env st => (f env st).bind fun us st1 => Rs.of (zipKV st1 us) st1
theorem nn {u v : Nat} (h : u < v ∨ v < u) : u ≠ v := by omega
/-- a sequence that can be walked -/
theorem walk_of {X : Cx} {pins : List (Addr × Obj)} {sg : L2.St} {H : Hp} {s : Shared} (I : Inv X pins sg H s) {a : Addr} {vs : List V} (h : SqL X.K H a vs ∨ SqT X.K H a vs) : ∃ (its : List Value) (ob : Obj) (Hh : Heap → Prop) (S : Addr → Nat → Heap → Prop), Vals vs its ∧ its.length ≤ sizeLine ∧ Begins (.ref a) ob Hh ∧ Hh s.heap ∧ (∃ o, s.heap.get? a = some o) ∧
    ∀ i, a ≠ i → Itr X.prog X.w i a its.toArray (S i) ∧ ∀ h', h'.get? i = some ob → (∀ o, s.heap.get? a = some o → h'.get? a = some o) → S i 0 h' := by
  rcases h with h | h
  · obtain ⟨its, v, p, z⟩ := I.list h
    have hl := p.isList
    refine ⟨its, _, _, fun i k h => h.IsListIter i a k ∧ h.IsList a its.toArray, v, ?_, begins_list a its.toArray, hl, let ⟨o, q, _⟩ := hl; ⟨o, q⟩, fun i ne => ⟨itr_list ne, fun h' q1 q2 => ⟨⟨_, q1, rfl, rfl⟩, let ⟨o, q, r⟩ := hl; ⟨o, q2 o q, r⟩⟩⟩⟩
    rw [← v.length]; exact z
  · obtain ⟨its, v, p, z⟩ := I.tuple h
    have hl : s.heap.IsTuple a its.toArray := p
    refine ⟨its, _, _, fun i k h => h.IsTupleIter i a k ∧ h.IsTuple a its.toArray, v, ?_, begins_tuple a its.toArray, hl, let ⟨o, q, _⟩ := hl; ⟨o, q⟩, fun i ne => ⟨itr_tuple ne, fun h' q1 q2 => ⟨⟨_, q1, rfl, rfl⟩, let ⟨o, q, r⟩ := hl; ⟨o, q2 o q, r⟩⟩⟩⟩
    rw [← v.length]; exact z
@[simp] theorem zipK_ap (f : DA) (env : Env) (st : Store) : zipK f env st = (f env st).bind fun us st1 => Rs.of (zipKV st1 us) st1 := (rfl)
end D
namespace D
open PySem L2
end D
namespace D
open PySem L2
section
variable {X : Cx} {xs : XS} {wx : WX} {pos : Pos}
/-- list(x), whatever x is -/
def lstG (f : DE) : DL := fun env st => (f env st).bind fun u st1 => Rs.of (seqAt st1 u) st1
/-- tuple(x), whatever x is -/
def tupG (f : DE) : DE := fun env st => (f env st).bind fun u st1 => Rs.of ((seqAt st1 u).map U.tup) st1
/-- x[::-1], whatever x is -/
def backG (f : DE) : DL := fun env st => (f env st).bind fun u st1 => match u with
  | .tup _ => .bad
  | u => Rs.of ((seqAt st1 u).map List.reverse) st1
/-- o.pop() -/
def popR0 (f : DE) : DE := fun env st => (f env st).bind fun u st1 => match u with
  | .ref n => match st1[n]? with
    | some (.lst us) => match us.getLast? with
      | some y => .ok y (st1.set n (.lst us.dropLast))
      | none => .bad
    | _ => .bad
  | _ => .bad
/-- o == [], o != [] -/
def nilG (neg : Bool) (f : DE) : DE := fun env st => (f env st).bind fun u st1 => match u with
  | .lst us => .ok (.bl (us.isEmpty != neg)) st1
  | .ref n => match st1[n]? with
    | some (.lst us) => .ok (.bl (us.isEmpty != neg)) st1
    | _ => .bad
  | _ => .bad
/-- len(x), whatever x is -/
def lenG (f : DE) : DE := fun env st => (f env st).bind fun u st1 => match u with
  | .ref n => match st1[n]? with
    | some (.lst us) => .ok (.int us.length) st1
    | some (.dct ks _) => .ok (.int ks.length) st1
    | _ => .bad
  | u => Rs.of (lenN [u]) st1
/-- comparison with a list without items -/
def rNil (K : PySem.W.Frag) (neg : Bool) : R2 := fun x y H Q => ∃ (a b : Addr) (vs : List V), x = .ref a ∧ y = .ref b ∧ SqL K H a vs ∧ SqL K H b [] ∧ Q (.bl (vs.isEmpty != neg)) H
theorem o_eqNil (hu : X.A.units < cLine) : OpR X (compareOp .Eq) (rNil X.K false) := by
  intro pins s sg H x y v u Q I rx ry ⟨a, b, vs, ex, ey, s1, s2, q⟩
  subst ex; subst ey
  cases (show v = Value.ref a from rx)
  cases (show u = Value.ref b from ry)
  obtain ⟨its, w1, t1, _⟩ := I.list s1
  obtain ⟨jts, w2, t2, _⟩ := I.list s2
  have z2 : jts = [] := List.eq_nil_of_length_eq_zero (by rw [← w2.length]; rfl)
  subst z2
  cases vs with
  | nil =>
    have z1 : its = [] := List.eq_nil_of_length_eq_zero (by rw [← w1.length]; rfl)
    subst z1
    exact SeqAt.RcAt.lists (e := fun _ => true) t1.isList t2.isList rfl hu (fun j h1 _ => absurd h1 (by simp)) X.prog X.w _ _ ⟨.bl true, H, I, rfl, q⟩
  | cons v vs =>
    have z1 : its.length ≠ 0 := by rw [← w1.length]; simp
    exact SeqAt.RcAt.lists_lengths t1.isList t2.isList (by simpa using z1) hu X.prog X.w _ _ ⟨.bl false, H, I, rfl, q⟩
theorem o_neNil (hu : X.A.units < cLine) : OpR X (compareOp .NotEq) (rNil X.K true) := by
  intro pins s sg H x y v u Q I rx ry ⟨a, b, vs, ex, ey, s1, s2, q⟩
  subst ex; subst ey
  cases (show v = Value.ref a from rx)
  cases (show u = Value.ref b from ry)
  obtain ⟨its, w1, t1, _⟩ := I.list s1
  obtain ⟨jts, w2, t2, _⟩ := I.list s2
  have z2 : jts = [] := List.eq_nil_of_length_eq_zero (by rw [← w2.length]; rfl)
  subst z2
  cases vs with
  | nil =>
    have z1 : its = [] := List.eq_nil_of_length_eq_zero (by rw [← w1.length]; rfl)
    subst z1
    exact SeqAt.RcNeAt.lists (e := fun _ => true) t1.isList t2.isList rfl hu (fun j h1 _ => absurd h1 (by simp)) X.prog X.w _ _ ⟨.bl false, H, I, rfl, q⟩
  | cons v vs =>
    have z1 : its.length ≠ 0 := by rw [← w1.length]; simp
    exact SeqAt.RcNeAt.lists_lengths t1.isList t2.isList (by simpa using z1) hu X.prog X.w _ _ ⟨.bl true, H, I, rfl, q⟩
theorem nil_read {neg : Bool} {fa : DE} {p : Pos} {sg : L2.St} {H : Hp} {Q : VK} (h : tD X.K xs wx (nilG neg fa) sg H Q) : tOp (rNil X.K neg) (tD X.K xs wx fa) (tLst (tNil)) sg H Q := by
  obtain ⟨G, io, st, env, ok, er, w⟩ := h
  refine ⟨G, io, st, env, ok, er, w.bind.impR fun st1 io1 H1 u ok1 e1 w1 x rx => ?_⟩
  refine ⟨by decide, fun p hp => ?_⟩
  have sm : Same H1 (upd H1 p (.lst [])) := same_upd hp
  have key : ∀ (us : List U) (vs : List V) (a : Addr), x = .ref a → SqL X.K H1 a vs → us.length = vs.length → Wants X.K G io1 H1 (fun _ io' H' u => ∀ v, Rep X.K (Wf G io') io' H' u v → Q v H') (XW xs wx sg) (.ok (.bl (us.isEmpty != neg)) st1) → rNil X.K neg x (.ref p) (upd H1 p (.lst [])) Q := fun us vs a ex sq hl w2 => by
    refine ⟨a, p, vs, ex, rfl, ?_, .inl (.inl upd_same), ?_⟩
    · rcases sq with (sq | ⟨o, sq⟩) | sq
      · exact .inl (.inl (sm _ _ sq))
      · exact .inl (.inr ⟨o, sm _ _ sq⟩)
      · exact .inr sq
    · have : vs.isEmpty = us.isEmpty := by cases us <;> cases vs <;> first | rfl | (simp at hl)
      rw [this]
      exact w2.hereS ok1 sm _ (rBl _)
  cases u with
  | lst us =>
    obtain ⟨a, vs, ex, l, r⟩ := rx.lst'
    exact key us vs a ex l.sq r.length w1
  | ref n =>
    simp only at w1
    split at w1
    · rename_i us hus
      obtain ⟨a, vs, ex, q1, q2, q3⟩ := ref_list ok1 hus rx
      exact key us vs a ex (.inl (.inl q2)) q3.length w1
    · exact w1.elim
  | _ => exact w1.elim
theorem t_eqNil {a : Expr} {fa : DE} {p : Pos} (hu : X.A.units < cLine) (ha : PE X a (tD X.K xs wx fa)) (hm : behindInMarks .Eq (.List [] p) = false := by first | exact nomark _ | rfl) : PT X (.Compare a [.Eq] [.List [] p] pos) (tDT X.K xs wx (tst (nilG false fa))) :=
  pt_imp (pt_cmpR (o_eqNil hu) ha (pe_lst pa_nil) hm) fun sg H Q h => nil_read (p := p) (tst_read (t := tVar 0) h)
theorem t_neNil {a : Expr} {fa : DE} {p : Pos} (hu : X.A.units < cLine) (ha : PE X a (tD X.K xs wx fa)) (hm : behindInMarks .NotEq (.List [] p) = false := by first | exact nomark _ | rfl) : PT X (.Compare a [.NotEq] [.List [] p] pos) (tDT X.K xs wx (tst (nilG true fa))) :=
  pt_imp (pt_cmpR (o_neNil hu) ha (pe_lst pa_nil) hm) fun sg H Q h => nil_read (p := p) (tst_read (t := tVar 0) h)
end
@[simp] theorem lstG_ap (f : DE) (env : Env) (st : Store) : lstG f env st = (f env st).bind fun u st1 => Rs.of (seqAt st1 u) st1 := (rfl)
@[simp] theorem tupG_ap (f : DE) (env : Env) (st : Store) : tupG f env st = (f env st).bind fun u st1 => Rs.of ((seqAt st1 u).map U.tup) st1 := (rfl)
@[simp] theorem backG_ap (f : DE) (env : Env) (st : Store) : backG f env st = (f env st).bind fun u st1 => match u with
  | .tup _ => .bad
  | u => Rs.of ((seqAt st1 u).map List.reverse) st1 := (rfl)
@[simp] theorem popR0_ap (f : DE) (env : Env) (st : Store) : popR0 f env st = (f env st).bind fun u st1 => match u with
  | .ref n => match st1[n]? with
    | some (.lst us) => match us.getLast? with
      | some y => .ok y (st1.set n (.lst us.dropLast))
      | none => .bad
    | _ => .bad
  | _ => .bad := (rfl)
@[simp] theorem nilG_ap (neg : Bool) (f : DE) (env : Env) (st : Store) : nilG neg f env st = (f env st).bind fun u st1 => match u with
  | .lst us => .ok (.bl (us.isEmpty != neg)) st1
  | .ref n => match st1[n]? with
    | some (.lst us) => .ok (.bl (us.isEmpty != neg)) st1
    | _ => .bad
  | _ => .bad := (rfl)
@[simp] theorem lenG_ap (f : DE) (env : Env) (st : Store) : lenG f env st = (f env st).bind fun u st1 => match u with
  | .ref n => match st1[n]? with
    | some (.lst us) => .ok (.int us.length) st1
    | some (.dct ks _) => .ok (.int ks.length) st1
    | _ => .bad
  | u => Rs.of (lenN [u]) st1 := (rfl)
end D
namespace D
open PySem L2
/-- the two heaps differ by a lock at d alone -/
structure Lk (d : Addr) (o : Obj) (kvs : List (Key × V)) (H H' : Hp) : Prop where
  at_ : (H d = some (.dK kvs) ∧ H' d = some (.frz o (.dK kvs))) ∨ (H d = some (.frz o (.dK kvs)) ∧ H' d = some (.dK kvs))
  ne : ∀ a, a ≠ d → H' a = H a
section
variable {K : PySem.W.Frag} {W : Addr → Prop} {io : List Addr} {H H' : Hp} {d : Addr} {o : Obj} {kvs : List (Key × V)}
theorem Lk.off (k : Lk d o kvs H H') {a : Addr} {x : HO} (h : H a = some x) (n1 : ∀ kv, x ≠ .dK kv) (n2 : ∀ y kv, x ≠ .frz y (.dK kv)) : H' a = some x := by
  by_cases e : a = d
  · subst e
    rcases k.at_ with ⟨q, _⟩ | ⟨q, _⟩ <;> rw [q] at h <;> cases h
    · exact absurd rfl (n1 _)
    · exact absurd rfl (n2 _ _)
  · rw [k.ne a e]; exact h
theorem Lk.rd (k : Lk d o kvs H H') {a : Addr} {x : HO} (nf : ∀ y z, x ≠ .frz y z) (h : Rd H a x) : Rd H' a x := by
  by_cases e : a = d
  · subst e
    rcases k.at_ with ⟨q, q'⟩ | ⟨q, q'⟩ <;> rcases h with h | ⟨y, h⟩ <;> rw [q] at h <;> cases h
    · exact .inr ⟨o, q'⟩
    · exact absurd rfl (nf _ _)
    · exact .inl q'
  · rcases h with h | ⟨y, h⟩
    · exact .inl (by rw [k.ne a e]; exact h)
    · exact .inr ⟨y, by rw [k.ne a e]; exact h⟩
theorem Lk.ll (k : Lk d o kvs H H') {a : Addr} {xs : List V} (h : LL K W H a xs) : LL K W H' a xs := ⟨k.off h.1 (fun _ z => nomatch z) (fun _ _ z => nomatch z), h.2⟩
theorem Lk.ls (k : Lk d o kvs H H') {a : Addr} {xs : List V} (h : LS K W H a xs) : LS K W H' a xs := h.imp (fun z => ⟨k.rd (fun _ _ y => nomatch y) z.1, z.2⟩) id
theorem Lk.lt (k : Lk d o kvs H H') {a : Addr} {xs : List V} (h : LT K W H a xs) : LT K W H' a xs := h.imp (fun z => ⟨k.rd (fun _ _ y => nomatch y) z.1, z.2⟩) id
theorem Lk.ld (k : Lk d o kvs H H') {a : Addr} {ks : List U} {vs : List V} (h : LD W H a ks vs) : LD W H' a ks vs := ⟨h.1, h.2.imp (fun ⟨kv, q1, q2⟩ => ⟨kv, k.rd (fun _ _ y => nomatch y) q1, q2⟩) (fun ⟨kv, q1, q2⟩ => ⟨kv, k.off q1 (fun _ z => nomatch z) (fun _ _ z => nomatch z), q2⟩)⟩
mutual
theorem Lk.rep (k : Lk d o kvs H H') : ∀ (u : U) (v : V), Rep K W io H u v → Rep K W io H' u v
  | .non, v, h => by unfold Rep at h ⊢; exact h
  | .bl b, v, h => by unfold Rep at h ⊢; exact h
  | .int i, v, h => by unfold Rep at h ⊢; exact h
  | .str x, v, h => by unfold Rep at h ⊢; exact h
  | .ty n, v, h => by unfold Rep at h ⊢; exact h
  | .ref n, v, h => by unfold Rep at h ⊢; exact h
  | .tup us, v, h => by
    unfold Rep at h ⊢
    obtain ⟨a, vs, h1, h2, h3⟩ := h
    exact ⟨a, vs, h1, k.lt h2, Lk.reps k us vs h3⟩
  | .lst us, v, h => by
    unfold Rep at h ⊢
    obtain ⟨a, vs, h1, h2, h3⟩ := h
    exact ⟨a, vs, h1, k.ll h2, Lk.reps k us vs h3⟩
  | .dct ks us, v, h => by
    unfold Rep at h ⊢
    obtain ⟨a, vs, h1, h2, h3⟩ := h
    exact ⟨a, vs, h1, k.ld h2, Lk.reps k us vs h3⟩
  | .scr ns, v, h => by
    unfold Rep at h ⊢
    obtain ⟨a, h1, h2⟩ := h
    exact ⟨a, h1, k.ls h2⟩
theorem Lk.reps (k : Lk d o kvs H H') : ∀ (us : List U) (vs : List V), Reps K W io H us vs → Reps K W io H' us vs
  | [], vs, h => by unfold Reps at h ⊢; exact h
  | u :: us, vs, h => by
    unfold Reps at h ⊢
    obtain ⟨v, r, h1, h2, h3⟩ := h
    exact ⟨v, r, h1, Lk.rep k u v h2, Lk.reps k us r h3⟩
end
theorem Lk.ok {G : Addr → Prop} {st : Store} (k : Lk d o kvs H H') (nd : ¬ Wf G io d) (ok : Ok K G io st H) : Ok K G io st H' := by
  have nea : ∀ a, Wf G io a → a ≠ d := fun a ha e => nd (e ▸ ha)
  refine ⟨ok.nd, ok.dj, fun a ha => let ⟨x, e, n⟩ := ok.trk a ha; ⟨x, by rw [k.ne a (nea a ha)]; exact e, n⟩, ok.len, fun n ob a e1 e2 => ?_⟩
  have ha := k.ne a (nea a (.inr (List.mem_of_getElem? e2)))
  have q := ok.obs n ob a e1 e2
  cases ob with
  | lst us => obtain ⟨vs, q1, q2⟩ := q; exact ⟨vs, ha.trans q1, k.reps _ _ q2⟩
  | dct ks us => obtain ⟨kv, q1, q2, q3⟩ := q; exact ⟨kv, ha.trans q1, q2, k.reps _ _ q3⟩
  | dcT ks us => obtain ⟨kv, q1, q2, q3⟩ := q; exact ⟨kv, ha.trans q1, q2, k.reps _ _ q3⟩
  | obj c fs => obtain ⟨C, dx, vs, q1, q2, q3⟩ := q; exact ⟨C, dx, vs, q1, ha.trans q2, k.reps _ _ q3⟩
  | ins c fs =>
    obtain ⟨C, dd, q1, q2, q3⟩ := q
    exact ⟨C, dd, q1, ha.trans q2, q3.keep fun x ws z => k.off z (fun _ y => nomatch y) (fun _ _ y => nomatch y)⟩
  | gone => trivial
theorem Lk.env {G : Addr → Prop} {env : Env} {sg : L2.St} (k : Lk d o kvs H H') (er : EnvRep K G io H env sg) : EnvRep K G io H' env sg := ⟨er.len, fun i s x e1 e2 => by
  have q := er.sl i s x e1 e2
  cases s with
  | un => trivial
  | val u => obtain ⟨v, q1, q2⟩ := q; exact ⟨v, q1, k.rep _ _ q2⟩
  | own us =>
    obtain ⟨a, vs, q1, q2, q3, q4⟩ := q
    exact ⟨a, vs, q1, q2, k.off q3 (fun _ z => nomatch z) (fun _ _ z => nomatch z), k.reps _ _ q4⟩⟩
theorem Lk.fr {F : Addr → Prop} {st : Store} {env : Env} {sg : L2.St} (k : Lk d o kvs H H') (nd : ¬ Wf (Gs F env sg) io d) (f : Fr K F io st env sg H) : Fr K F io st env sg H' := ⟨k.ok nd f.ok, k.env f.er, f.nF, f.dd⟩
end
def noExO : Out → Out
  | .ex _ _ _ _ => .bad
  | x => x
def sForK (i : Nat) (t : Tg) (b : DS) : DS := fun env st => match env[i]? with
  | some (.val (.dct ks us)) => match kvsOf ks us with
    | some _ => noExO (forL t b ks env st)
    | none => .bad
  | _ => .bad
@[simp] theorem sForK_ap (i : Nat) (t : Tg) (b : DS) (env : Env) (st : Store) : sForK i t b env st = match env[i]? with
  | some (.val (.dct ks us)) => match kvsOf ks us with
    | some _ => noExO (forL t b ks env st)
    | none => .bad
  | _ => .bad := (rfl)
end D
namespace D
open PySem L2
section
variable {X : Cx} {xs : XS} {wx : WX} {pos : Pos}
/-- dict(list of pairs) -/
def pairKV : List U → Option (List (Key × U))
  | [] => some []
  | .tup [k, v] :: r => match kOf k, pairKV r with
    | some kk, some l => some ((kk, v) :: l)
    | _, _ => none
  | _ => none
def prsK (f : DE) : DKv := fun env st => (f env st).bind fun u st1 => match u with
  | .lst us => Rs.of ((pairKV us).map fun l => mergeG [] l) st1
  | _ => .bad
end
@[simp] theorem prsK_ap (f : DE) (env : Env) (st : Store) : prsK f env st = (f env st).bind fun u st1 => match u with
  | .lst us => Rs.of ((pairKV us).map fun l => mergeG [] l) st1
  | _ => .bad := (rfl)
theorem unitsN {k : Nat} {A : Around} (hr : Room k A) : A.units < cLine := by have := hr.un; omega
end D
namespace D
open PySem L2
def lsAt (st : Store) : U → Option (List U)
  | .lst us => some us
  | .ref n => match st[n]? with
    | some (.lst us) => some us
    | _ => none
  | _ => none
def catG (f g : DE) : DL := fun env st => (f env st).bind fun u st1 => (g env st1).bind fun v st2 => match lsAt st2 u, lsAt st2 v with
  | some a, some b => if a.length + b.length ≤ sizeLine then .ok (a ++ b) st2 else .bad
  | _, _ => .bad
@[simp] theorem catG_ap (f g : DE) (env : Env) (st : Store) : catG f g env st = (f env st).bind fun u st1 => (g env st1).bind fun v st2 => match lsAt st2 u, lsAt st2 v with
  | some a, some b => if a.length + b.length ≤ 16777216 then .ok (a ++ b) st2 else .bad
  | _, _ => .bad := by rw [← sizeLine_val]; rfl
@[simp] theorem lsAt_lst (st : Store) (us : List U) : lsAt st (.lst us) = some us := (rfl)
@[simp] theorem lsAt_ref (st : Store) (n : Nat) : lsAt st (.ref n) = match st[n]? with
  | some (.lst us) => some us
  | _ => none := (rfl)
end D
namespace D
open PySem L2
def selD (g1 g2 g3 : List U → Store → Rs U) (fi : DE) (fa : DA) : DE := fun env st => (fi env st).bind fun u st1 => match u with
  | .int i => if i = 0 then appU g1 fa env st1 else if i = 1 then appU g2 fa env st1 else if i = 2 then appU g3 fa env st1 else .bad
  | _ => .bad
@[simp] theorem selD_ap (g1 g2 g3 : List U → Store → Rs U) (fi : DE) (fa : DA) (env : Env) (st : Store) : selD g1 g2 g3 fi fa env st = (fi env st).bind fun u st1 => match u with
  | .int i => if i = 0 then appU g1 fa env st1 else if i = 1 then appU g2 fa env st1 else if i = 2 then appU g3 fa env st1 else .bad
  | _ => .bad := (rfl)
end D
set_option maxHeartbeats 4000000
namespace D
open PySem PySem.Spec PyProof.Rows L2
def mulT2 : U → U → Option U
  | .tup x, .int k => if 0 ≤ k ∧ k ≤ 1000 ∧ x ≠ [] ∧ x.length ≤ 1000 then some (.tup (List.replicate k.toNat x).flatten) else none
  | _, _ => none
@[simp] theorem mulT_ap (x : List U) (k : Int) : mulT2 (.tup x) (.int k) = if 0 ≤ k ∧ k ≤ 1000 ∧ x ≠ [] ∧ x.length ≤ 1000 then some (.tup (List.replicate k.toNat x).flatten) else none := (rfl)
end D
set_option maxHeartbeats 4000000
namespace D
open PySem PySem.Spec PyProof.Rows L2
/-- a built-in of what is looked at, deep within -/
def appNW (g : List U → Option U) (fa : DA) : DE := fun env st => (fa env st).bind fun us st1 => if noRefs (us.map (der st1)) = true then Rs.of ((g (us.map (der st1))).bind fun u => match u with
  | .str x => some (.str x)
  | _ => none) st1 else .bad
@[simp] theorem appNW_ap (g : List U → Option U) (fa : DA) (env : Env) (st : Store) : appNW g fa env st = (fa env st).bind fun us st1 => if noRefs (us.map (der st1)) = true then Rs.of ((g (us.map (der st1))).bind fun u => match u with
  | .str x => some (.str x)
  | _ => none) st1 else .bad := (rfl)
end D
set_option maxHeartbeats 4000000
namespace D
open PySem PySem.Spec PyProof.Rows L2
end D
set_option maxHeartbeats 4000000
namespace D
open PySem L2
mutual
def lowRef (n : Nat) : U → Bool
  | .ref j => decide (j < n)
  | .tup us => lowRefs n us
  | .lst us => lowRefs n us
  | .dct _ us => lowRefs n us
  | _ => true
def lowRefs (n : Nat) : List U → Bool
  | [] => true
  | u :: us => lowRef n u && lowRefs n us
end
def lowOb (n : Nat) : Ob → Bool
  | .lst us => lowRefs n us
  | .dct _ us => lowRefs n us
  | .dcT _ us => lowRefs n us
  | .obj _ fs => lowRefs n (fs.map (·.2))
  | .ins _ _ => true
  | .gone => true
def lowSt (n : Nat) (st : Store) : Bool := st.all (lowOb n)
def derN : Nat → Nat → Store → U → U
  | 0, _, _, u => u
  | k + 1, n, st, .ref j => if j < n then .ref j else match st[j]? with
    | some (.lst us) => .lst (us.map (derN k n st))
    | some (.dct ks us) => .dct ks (us.map (derN k n st))
    | some (.dcT (k0 :: ks) us) => .dct ((k0 :: ks).map U.tup) (us.map (derN k n st))
    | _ => .ref j
  | k + 1, n, st, .tup us => .tup (us.map (derN k n st))
  | k + 1, n, st, .lst us => .lst (us.map (derN k n st))
  | k + 1, n, st, .dct ks us => .dct ks (us.map (derN k n st))
  | _ + 1, _, _, u => u
def cutZ (n : Nat) (r : Rs U) : Rs U := match r with
  | .ok u st => if lowSt n (st.take n) = true ∧ lowRef n (derN 12 n st u) = true then .ok (derN 12 n st u) (st.take n) else .bad
  | .ex c fs st => if lowSt n (st.take n) = true then .ex c fs (st.take n) else .bad
  | .bad => .bad
def zD (f : DE) : DE := fun env st => cutZ st.length (f env st)
@[simp] theorem zD_ap (f : DE) (env : Env) (st : Store) : zD f env st = cutZ st.length (f env st) := (rfl)
end D
set_option maxHeartbeats 4000000
namespace D
open PySem L2
def sUnpR (is : List Nat) (f : DE) : DS := fun env st => (f env st).out env fun u st1 => match u with
  | .ref n => match st1[n]? with
    | some (.lst us) => if us.length = is.length then .nx (setE env (is.zip us)) st1 else .bad
    | _ => .bad
  | _ => .bad
@[simp] theorem sUnpR_ap (is : List Nat) (f : DE) (env : Env) (st : Store) : sUnpR is f env st = (f env st).out env fun u st1 => match u with
  | .ref n => match st1[n]? with
    | some (.lst us) => if us.length = is.length then .nx (setE env (is.zip us)) st1 else .bad
    | _ => .bad
  | _ => .bad := (rfl)
def cutT (n : Nat) (r : Rs U) : Rs U := match r with
  | .ok (.ref j) st => match st[j]? with
    | some (.lst us) => if n ≤ j ∧ lowSt n (st.take n) = true ∧ lowRefs n (us.map (derN 12 n (st.set j .gone))) = true then .ok (.ref n) (st.take n ++ [.lst (us.map (derN 12 n (st.set j .gone)))]) else .bad
    | _ => .bad
  | .ok _ _ => .bad
  | .ex c fs st => if lowSt n (st.take n) = true then .ex c fs (st.take n) else .bad
  | .bad => .bad
def zT (f : DE) : DE := fun env st => cutT st.length (f env st)
@[simp] theorem zT_ap (f : DE) (env : Env) (st : Store) : zT f env st = cutT st.length (f env st) := (rfl)
theorem Ok.gone {K : PySem.W.Frag} {G : Addr → Prop} {io : List Addr} {st : Store} {H : Hp} (ok : Ok K G io st H) (j : Nat) : Ok K G io (st.set j .gone) H := by
  refine ⟨ok.nd, ok.dj, ok.trk, by rw [List.length_set]; exact ok.len, fun n ob a e1 e2 => ?_⟩
  by_cases h : j = n
  · subst h
    have : j < st.length := by
      have := (List.getElem?_eq_some_iff.mp e1).1
      rwa [List.length_set] at this
    rw [List.getElem?_set_self this] at e1
    cases e1
    trivial
  · rw [List.getElem?_set_ne h] at e1
    exact ok.obs n ob a e1 e2
end D
set_option maxHeartbeats 4000000
namespace D
open PySem PySem.Spec PyProof.Rows L2
/-- o.clear() -/
def clrR (f : DE) : DE := fun env st => (f env st).bind fun u st1 => match u with
  | .ref n => match st1[n]? with
    | some (.lst _) => .ok .non (st1.set n (.lst []))
    | _ => .bad
  | _ => .bad
@[simp] theorem clrR_ap (f : DE) (env : Env) (st : Store) : clrR f env st = (f env st).bind fun u st1 => match u with
  | .ref n => match st1[n]? with
    | some (.lst _) => .ok .non (st1.set n (.lst []))
    | _ => .bad
  | _ => .bad := (rfl)
end D
set_option maxHeartbeats 4000000
namespace D
open PySem L2
def txtKeys : List (Key × U) → Option (List Str)
  | [] => some []
  | (.inr x, _) :: r => (txtKeys r).map (x :: ·)
  | (.inl _, _) :: _ => none
def sortDk (g : List (Key × U)) : Option (List U) := (txtKeys g).bind fun ys => if ys.length < 64 then some ((sortS ys).map U.str) else none
/-- sorted(d) -/
def sortD (f : DE) : DL := fun env st => (f env st).bind fun u st1 => Rs.of ((dictAt st1 u).bind sortDk) st1
/-- list(d) -/
def listK (f : DE) : DL := fun env st => (f env st).bind fun u st1 => Rs.of ((dictAt st1 u).map fun g => g.map fun p => kU p.1) st1
@[simp] theorem sortD_ap (f : DE) (env : Env) (st : Store) : sortD f env st = (f env st).bind fun u st1 => Rs.of ((dictAt st1 u).bind sortDk) st1 := (rfl)
@[simp] theorem listK_ap (f : DE) (env : Env) (st : Store) : listK f env st = (f env st).bind fun u st1 => Rs.of ((dictAt st1 u).map fun g => g.map fun p => kU p.1) st1 := (rfl)
section
variable {X : Cx} {xs : XS} {wx : WX} {pos : Pos} {tg : Expr}
def sForX (i : Nat) (t : Tg) (b : DS) : DS := fun env st => match env[i]? with
  | some (.val (.dct ks us)) => match kvsOf ks us with
    | some _ => forL t b ks env st
    | none => .bad
  | _ => .bad
end
@[simp] theorem sForX_ap (i : Nat) (t : Tg) (b : DS) (env : Env) (st : Store) : sForX i t b env st = match env[i]? with
  | some (.val (.dct ks us)) => match kvsOf ks us with
    | some _ => forL t b ks env st
    | none => .bad
  | _ => .bad := (rfl)
section
variable {X : Cx} {xs : XS} {wx : WX} {pos : Pos} {tg : Expr}
/-- [.. for k in d], d a dict held by a name -/
def compK (i : Nat) (vs : List Nat) (t : Tg) (c : DT) (e : DE) : DL := fun env st => match env[i]? with
  | some (.val (.dct ks us)) => match kvsOf ks us with
    | some _ => if ks.length ≤ sizeLine then noEx (compL t c e ks (wipeE env vs) st) else .bad
    | none => .bad
  | _ => .bad
end
@[simp] theorem compK_ap (i : Nat) (vs : List Nat) (t : Tg) (c : DT) (e : DE) (env : Env) (st : Store) : compK i vs t c e env st = match env[i]? with
  | some (.val (.dct ks us)) => match kvsOf ks us with
    | some _ => if ks.length ≤ sizeLine then noEx (compL t c e ks (wipeE env vs) st) else .bad
    | none => .bad
  | _ => .bad := (rfl)
/-- [.. for k in x], x held by a name, a dict or none -/
def compM (i : Nat) (vs : List Nat) (t : Tg) (c : DT) (e : DE) : DL := fun env st => match env[i]? with
  | some (.val (.dct _ _)) => compK i vs t c e env st
  | _ => compD (itemsD (var i)) vs t c e env st
@[simp] theorem compM_ap (i : Nat) (vs : List Nat) (t : Tg) (c : DT) (e : DE) (env : Env) (st : Store) : compM i vs t c e env st = match env[i]? with
  | some (.val (.dct _ _)) => compK i vs t c e env st
  | _ => compD (itemsD (var i)) vs t c e env st := (rfl)
end D
set_option maxHeartbeats 4000000
namespace D
open PySem PySem.Spec PyProof.Rows L2
end D
namespace D
open PySem L2
def tabGet2 (tab : List (Str × U)) : U → U → Option U
  | .str x, d => some ((tabAt tab x).getD d)
  | _, _ => none
@[simp] theorem tabGet2_ap (tab : List (Str × U)) (x : Str) (d : U) : tabGet2 tab (.str x) d = some ((tabAt tab x).getD d) := (rfl)
end D
namespace D
open PySem L2 PySem.Spec PyProof.Rows
def sTryF (t : List (Str × Bool)) (i j : Nat) (fld : Str) (b : DS) : DS := fun env st => match b env st with
  | .ex c fs env' st' => match tabB t c with
    | some true => match fs.lookup fld with
      | some v => if i < env'.length then .nx ((env'.set j (.val v)).set i .un) st' else .bad
      | none => .bad
    | some false => .ex c fs env' st'
    | none => .bad
  | o => o
@[simp] theorem sTryF_ap (t : List (Str × Bool)) (i j : Nat) (fld : Str) (b : DS) (env : Env) (st : Store) : sTryF t i j fld b env st = match b env st with
  | .ex c fs env' st' => match tabB t c with
    | some true => match fs.lookup fld with
      | some v => if i < env'.length then .nx ((env'.set j (.val v)).set i .un) st' else .bad
      | none => .bad
    | some false => .ex c fs env' st'
    | none => .bad
  | o => o := (rfl)
/-- the reading of a field, whatever its class -/
def tXF (K : PySem.W.Frag) (a : Addr) (cls : Value) (d : Option Addr) (n : Str) (te : TE) : TE := fun sg H Q => ∃ C, XfC K C ∧ PySem.W.findIn K (.ref C) n = some none ∧ tXf a cls d C n te sg H Q
theorem set3 {A : Type} (l : List A) (i j : Nat) (x y z : A) : ((l.set i x).set j y).set i z = (l.set j y).set i z := by
  apply List.ext_getElem?
  intro k
  by_cases hi : i = k
  · subst hi
    rw [List.getElem?_set_self', List.getElem?_set_self']
    by_cases hj : j = i
    · subst hj
      rw [List.getElem?_set_self', List.getElem?_set_self', List.getElem?_set_self']
      cases l[j]? <;> rfl
    · rw [List.getElem?_set_ne hj, List.getElem?_set_ne hj, List.getElem?_set_self']
      cases l[i]? <;> rfl
  · rw [List.getElem?_set_ne hi, List.getElem?_set_ne hi]
    by_cases hj : j = k
    · subst hj
      rw [List.getElem?_set_self', List.getElem?_set_self', List.getElem?_set_ne hi]
    · rw [List.getElem?_set_ne hj, List.getElem?_set_ne hj, List.getElem?_set_ne hi]
section
variable {X : Cx} {wx : WX} {x n y : Str} {c : Value} {i j : Nat} {body : List Stmt} {np p1 p2 p3 p4 pos pos' : Pos} {fld : Str}
theorem s_tryF {t : List (Str × Bool)} {b : DS} (hs : X.stack = X.env :: X.outer) (hf : X.env.frame = some X.env.locals) (hN : X.N.Nodup) (hi : X.N[i]? = some n) (hln : X.env.kindOf n = some .local) (hj : X.N[j]? = some y) (hly : X.env.kindOf y = some .local) (hc : Names X x c) (tk : Takes X wx)
    (ht : TabOk t fun k v => ∃ C, clsAt X.K k = some C ∧ PySem.W.exmOne X.K (.ref C) c = some v)
    (hg : TabOk t fun k v => v = true → ∃ C, clsAt X.K k = some C ∧ XfC X.K C ∧ PySem.W.findIn X.K (.ref C) fld = some none)
    (hb : ∀ (W : WX) (pn : List (Addr × Obj)) (xe : Value → Shared → Prop), Takes (X.tr pn xe) W → PassesOwn (model X.prog X.w) X.A X.env xe → PSs (X.tr pn xe) body (tDS X.K (XSd X.K) W b))
    (hba : attributeBase (.Name n p2) fld X.env (eval (.Name n p2) X.env) = eval (.Name n p2) X.env := by rfl)
    (hsw : swapsWith (.Attribute (.Name n p2) fld p4) (some (.Name y p1)) p3.line X.env = Pure.pure false := by rfl) (hd : (n == ("__debug__" : Str)) = false := by decide) (hcd : (n == ("__classdict__" : Str)) = false := by decide) :
    PS X (.Try body [.ExceptHandler (some (.Name x np)) (some n) [.Assign [.Name y p1] (.Attribute (.Name n p2) fld p4) p3] pos'] [] [] pos) (tDS X.K (XSd X.K) wx (sTryF t i j fld b)) := by
  have hsu : ∀ (a : Addr) (oe : Obj) (cls : Value) (d : Option Addr) (pn : List (Addr × Obj)), Zc cls d oe → (∃ vs, oe.data = .fields vs) → PSs (X.suite a ((a, oe) :: pn)) [.Assign [.Name y p1] (.Attribute (.Name n p2) fld p4) p3] (fun D sg H => tAsg (tXF X.K a cls d fld (tVar i)) (gName j) { D with nx := fun sg' H' => D.nx sg' H' } sg H) := fun a oe cls d pn hz hv => by
    have pe : PE (X.suite a ((a, oe) :: pn)) (.Attribute (.Name n p2) fld p4) (tXF X.K a cls d fld (tVar i)) := ⟨fun pins s sg H Q I h => by
      obtain ⟨C, T, hno, h⟩ := h
      exact (pe_xf (X := X) T hno hz hv (pe_var (i := i) hi (.inl hln) hd hcd) hba).run pins s sg H Q I h⟩
    exact pss_cons (ps_set (X := X.suite a ((a, oe) :: pn)) hN hj (.inl hly) pe hsw (.inr hly)) pss_nil
  refine ps_imp (ps_try_as (tb := fun W => tDS X.K (XSd X.K) W b) hs hf hN hi hln hc tk hb hsu) fun D sg H h => ?_
  obtain ⟨F, io, st, env, fr, w⟩ := h
  refine ⟨F, io, st, env, fr, ?_⟩
  unfold sTryF at w
  cases q : b env st with
  | nx env' st' => rw [q] at w; exact w
  | rt u st' => rw [q] at w; exact w
  | bk env' st' => rw [q] at w; exact w
  | ct env' st' => rw [q] at w; exact w
  | bad => rw [q] at w; exact w
  | ex k fs env' st' =>
    rw [q] at w
    simp only at w
    intro io' sg' H' f' e' cls d hx
    obtain ⟨C, hC, rfl, xd⟩ := hx
    cases hv : tabB t k with
    | none => rw [hv] at w; exact w.elim
    | some v =>
      rw [hv] at w
      obtain ⟨C', hC', hm⟩ := ht k v hv
      rw [hC] at hC'; cases hC'
      refine ⟨v, hm, fun hv' a na => ?_, fun hv' => ?_⟩
      · subst hv'
        obtain ⟨C', hC', T, hno⟩ := hg k true hv rfl
        rw [hC] at hC'; cases hC'
        simp only at w
        cases hl : fs.lookup fld with
        | none => rw [hl] at w; exact w.elim
        | some u =>
          rw [hl] at w
          simp only at w
          split at w
          rotate_left
          · exact w.elim
          rename_i hlen
          rcases xd with ⟨rfl, z⟩ | ⟨dd, ws, rfl, q7, q8⟩
          · subst z; cases hl
          · obtain ⟨y', l1, l2⟩ := flat_of q8 hl
            obtain ⟨f2, e2⟩ := f'.setVal (i := j) (u := u) (flat_rp l2)
            obtain ⟨f4, e4⟩ := f2.setUn i
            have hil : i < sg'.length := by
              rw [← f'.er.len]
              exact hlen
            refine ⟨C, T, hno, .ref a, List.getElem?_set_self hil, rfl, rfl, dd, ws, y', rfl, q7, l1, ?_⟩
            have := w _ _ _ f4 (e'.trans (e2.trans e4))
            show D.nx (((sg'.set i (some (.ref a))).set j (some y')).set i none) H'
            rw [set3]
            exact this
      · subst hv'
        exact w io' sg' H' f' e' _ _ ⟨C, hC, rfl, xd⟩
end
end D
namespace D
open PySem L2
def mulU : U → U → Option (List U)
  | .lst x, .int k => if -(2 ^ 63) ≤ k ∧ k < 2 ^ 63 ∧ x.length * k.toNat ≤ sizeLine then some (List.replicate k.toNat x).flatten else none
  | _, _ => none
def mulL (f g : DE) : DL := fun env st => (f env st).bind fun u st1 => (g env st1).bind fun v st2 => Rs.of (mulU u v) st2
section
variable {X : Cx} {xs : XS} {wx : WX} {pos : Pos}
theorem l_mul {a b : Expr} {f g : DE} (ha : PE X a (tD X.K xs wx f)) (hb : PE X b (tD X.K xs wx g)) : PE X (.BinOp a .Mult b pos) (tDL X.K xs wx (mulL f g)) :=
  pe_imp (pe_op op_rep ha hb) fun sg H Q q => by
    obtain ⟨G, io, st, env, ok, er, w⟩ := q
    refine ⟨G, io, st, env, ok, er, w.bind.impR fun st1 io1 H1 u ok1 e1 w1 v rv => ?_⟩
    refine ⟨G, io1, st1, env, ok1, er.ext ok.dj e1, w1.bind.impR fun st2 io2 H2 u2 ok2 e2 w2 v2 rv2 => ?_⟩
    obtain ⟨ws, hu, w3⟩ := w2.pure
    unfold mulU at hu
    split at hu
    · rename_i as k
      split at hu
      · rename_i hz
        cases hu
        obtain ⟨p, ys, rfl, l, r⟩ := (rv.ext e2).lst'
        have ek := rv2.int'
        subst ek
        refine ⟨p, _, ys, rfl, rfl, l.1, hz.1, hz.2.1, by rw [← r.length]; exact hz.2.2, fun q hq => ?_⟩
        exact w3.here ok2 _ q (r.rep _) hq
      · cases hu
    · cases hu
end
@[simp] theorem mulL_ap (f g : DE) (env : Env) (st : Store) : mulL f g env st = (f env st).bind fun u st1 => (g env st1).bind fun v st2 => Rs.of (mulU u v) st2 := (rfl)
end D
namespace D
open PySem L2
def binP (g : U → U → Option U) (i : Nat) (fb : DE) : DE := fun env st => match ownL env[i]? with
  | none => .bad
  | some us => (fb env st).bind fun k st1 => Rs.of (flat1 (g (.lst us) k)) st1
@[simp] theorem binP_ap (g : U → U → Option U) (i : Nat) (fb : DE) (env : Env) (st : Store) : binP g i fb env st = match ownL env[i]? with
  | none => .bad
  | some us => (fb env st).bind fun k st1 => Rs.of (flat1 (g (.lst us) k)) st1 := (rfl)
section
variable {X : Cx} {xs : XS} {wx : WX} {pos : Pos}
theorem binP_read {g : U → U → Option U} {fb : DE} {i : Nat} {sg : L2.St} {H : Hp} {Q : VK} (h : tD X.K xs wx (binP g i fb) sg H Q) : tOp (P2 X.K g) (tVar i) (tD X.K xs wx fb) sg H Q := by
  obtain ⟨G, io, st, env, ok, er, w⟩ := h
  unfold binP at w
  cases hO : ownL env[i]? with
  | none => rw [hO] at w; exact w.elim
  | some us =>
    rw [hO] at w
    obtain ⟨y, G0, hy, -, -, -⟩ := own_look ok er hO
    refine ⟨y, hy, G, io, st, env, ok, er, w.bind.impR fun st1 io1 H1 u ok1 e1 w1 v rv => ?_⟩
    obtain ⟨a, ha, w3⟩ := w1.pure
    obtain ⟨hg, hf⟩ := flat1_of ha
    obtain ⟨y', G', hy', sub, ok', ry⟩ := own_look ok1 (er.ext ok.dj e1) hO
    rw [hy] at hy'
    cases hy'
    have m : Mono G io1 H1 G' io1 H1 := ⟨⟨[], by simp⟩, fun b o n z => ⟨z, fun q => n (q.imp (sub b) id)⟩⟩
    exact ⟨G', io1, st1, .lst us, u, a, ok', ry, rv.mono m, hg, fun v' H' s r => w3.hereS ok1 s v' (flat_any hf r)⟩
theorem d_ixO (i : Nat) {x : Str} {b : Expr} {g : DE} {p : Pos} (hb : PE X b (tD X.K xs wx g)) (hs : PlainIx b) (hN : X.N[i]? = some x := by rfl) (hv : Vis X.env.scope x := by first | exact Or.inl rfl | exact Or.inr (Or.inl rfl) | exact Or.inr (Or.inr rfl)) (hd : (x == ("__debug__" : Str)) = false := by decide) (hcd : (x == ("__classdict__" : Str)) = false := by decide) :
    PE X (.Subscript (.Name x p) b pos) (tD X.K xs wx (binP ix2 i g)) := pe_imp (pe_ix o_ix (pe_var (i := i) hN hv hd hcd) hb hs) fun _ _ _ h => binP_read h
end
end D
namespace D
open PySem L2
def mulS2 : U → U → Option U
  | .str x, .int k => if 0 ≤ k ∧ k ≤ 1000 ∧ x.length ≤ 1000 then some (.str (Txt.mul x k)) else none
  | _, _ => none
@[simp] theorem mulS_ap (x : Str) (k : Int) : mulS2 (.str x) (.int k) = if 0 ≤ k ∧ k ≤ 1000 ∧ x.length ≤ 1000 then some (.str (Txt.mul x k)) else none := (rfl)
theorem mulOk_of {x : Str} {k : Int} (h0 : 0 ≤ k) (h1 : k ≤ 1000) (h2 : x.length ≤ 1000) : MulOk x k := by
  obtain ⟨n, rfl⟩ := Int.eq_ofNat_of_zero_le h0
  have hn : n ≤ 1000 := by omega
  have hp : x.length * n ≤ 1000 * 1000 := Nat.mul_le_mul h2 hn
  refine ⟨?_, fun h _ => ?_, fun _ _ => ?_⟩
  · rw [Bool.or_eq_false_iff]
    exact ⟨decide_eq_false (by omega), decide_eq_false (by omega)⟩
  · have : (x.length : Int) ≤ (2 ^ 63 - 1) / (n : Int) := by
      apply Int.le_ediv_of_mul_le (by omega)
      have : ((x.length * n : Nat) : Int) ≤ 1000000 := by omega
      rw [Int.natCast_mul] at this
      omega
    omega
  · show Builtin.Str.tooLong (x.length * n) = false
    unfold Builtin.Str.tooLong
    exact decide_eq_false (by have : (sizeLine : Nat) = 16777216 := sizeLine_val; omega)
theorem o_mulS {X : Cx} : OpR X (binaryOp .Mult) (P2 X.K mulS2) := by
  intro pins s sg H x y v u Q I rx ry h
  obtain ⟨G, io, st, u1, u2, u3, ok, r1, r2, e, q⟩ := h
  unfold mulS2 at e
  split at e
  · rename_i z k
    split at e
    · rename_i hz
      cases e
      have e1 := r1.str'
      have e2 := r2.int'
      subst e1; subst e2
      obtain ⟨t, rfl⟩ := rx
      obtain ⟨t', rfl⟩ := ry
      exact SB.mul (mulOk_of hz.1 hz.2.1 hz.2.2) fun t2 k2 => ⟨.str _, H, I.tok _, ⟨_, rfl⟩, q _ H (Same.refl H) (by show Rep _ _ _ _ (U.str _) _; unfold Rep; rfl)⟩
    · cases e
  · cases e
end D
namespace D
open PySem L2
def lenP (i : Nat) : DE := fun env st => match ownL env[i]? with
  | none => .bad
  | some us => .ok (.int us.length) st
@[simp] theorem lenP_ap (i : Nat) (env : Env) (st : Store) : lenP i env st = match ownL env[i]? with
  | none => .bad
  | some us => .ok (.int us.length) st := (rfl)
section
variable {X : Cx} {xs : XS} {wx : WX} {pos : Pos}
theorem d_lenO (i : Nat) {x : Str} {p p' : Pos} (hg : Gl X "len") (hm : X.mg "len" = none) (hN : X.N[i]? = some x := by rfl) (hv : Vis X.env.scope x := by first | exact Or.inl rfl | exact Or.inr (Or.inl rfl) | exact Or.inr (Or.inr rfl)) (hd : (x == ("__debug__" : Str)) = false := by decide) (hcd : (x == ("__classdict__" : Str)) = false := by decide) (hs : starEach [.Name x p'] X.env = (false, eval (.Name x p') X.env) :: starEach [] X.env := by rfl) :
    PE X (.Call (.Name "len" p) [.Name x p'] [] pos) (tD X.K xs wx (lenP i)) := by
  refine pe_imp (pe_callB (pos := pos) (p := p) call_len_seq hg hm bt_len (pa_cons (pe_var (i := i) hN hv hd hcd) pa_nil hs) (by decide) (by decide) hs rfl) fun sg H Q h => ?_
  obtain ⟨G, io, st, env, ok, er, w⟩ := h
  unfold lenP at w
  cases hO : ownL env[i]? with
  | none => rw [hO] at w; exact w.elim
  | some us =>
    rw [hO] at w
    obtain ⟨y, G0, hy, sub, ok0, ry⟩ := own_look ok er hO
    refine ⟨y, hy, ?_⟩
    unfold Rep at ry
    obtain ⟨a, vs, rfl, l, rs⟩ := ry
    refine ⟨a, vs, rfl, .inl l.sq, ?_⟩
    rw [← rs.length]
    exact Wants.here (a := U.int (us.length : Nat)) w ok _ (rInt _)
end
end D
namespace D
open PySem L2
section
variable (i j : Int) (x y : Str) (us ws : List U) (ns : List Int) (b : Bool)
@[simp] theorem len_str : lenN [.str x] = if x.length ≤ 16777216 then some (.int x.length) else none := by rw [← sizeLine_val]; rfl
@[simp] theorem add_strs : add2 (.str x) (.str y) = if x.length + y.length ≤ 16777216 then some (.str (x ++ y)) else none := by rw [← sizeLine_val]; rfl
@[simp] theorem add_tups : add2 (.tup us) (.tup ws) = if us.length + ws.length ≤ 16777216 then some (.tup (us ++ ws)) else none := by rw [← sizeLine_val]; rfl
@[simp] theorem add_lsts : add2 (.lst us) (.lst ws) = if us.length + ws.length ≤ 16777216 then some (.lst (us ++ ws)) else none := by rw [← sizeLine_val]; rfl
@[simp] theorem mul_int : mul2 (.int i) (.int j) = if smallI i || smallI j then some (.int (i * j)) else none := (rfl)
@[simp] theorem mod_int : mod2 (.int i) (.int j) = if 0 < j then some (.int (i % j)) else none := (rfl)
@[simp] theorem fdiv_int : fdiv2 (.int i) (.int j) = if 0 < j ∧ j < 1073741824 then some (.int (i / j)) else none := (rfl)
@[simp] theorem gt_str : gt2 (.str x) (.str y) = some (.bl (ltC y x)) := (rfl)
@[simp] theorem ge_str : ge2 (.str x) (.str y) = some (.bl (!ltC x y)) := (rfl)
@[simp] theorem szT_ap : szT us = if us.length ≤ 16777216 then some (.tup us) else none := by rw [← sizeLine_val]; rfl
@[simp] theorem szL_ap : szL us = if us.length ≤ 16777216 then some (.lst us) else none := by rw [← sizeLine_val]; rfl
@[simp] theorem items_scr : items (.scr ns) = some (ns.map U.int) := (rfl)
@[simp] theorem items_str : items (.str x) = some (x.cps.toList.map fun c => U.str ⟨#[c]⟩) := (rfl)
@[simp] theorem lstL_lst : lstL [.lst us] = some us := (rfl)
@[simp] theorem lstL_tup : lstL [.tup us] = some us := (rfl)
@[simp] theorem lstL_scr : lstL [.scr ns] = some (ns.map U.int) := (rfl)
@[simp] theorem tupN_lst : tupN [.lst us] = some (.tup us) := (rfl)
@[simp] theorem tupN_tup : tupN [.tup us] = some (.tup us) := (rfl)
@[simp] theorem intN_int : intN [.int i] = some (.int i) := (rfl)
@[simp] theorem intN_bl : intN [.bl b] = some (.int (if b then 1 else 0)) := (rfl)
@[simp] theorem enum_lst : enumerateN [.lst us] = some (numU us) := (rfl)
@[simp] theorem enum_tup : enumerateN [.tup us] = some (numU us) := (rfl)
@[simp] theorem zip_lst : zipN [.lst us, .lst ws] = some (zipU us ws) := (rfl)
@[simp] theorem zip_tup : zipN [.tup us, .tup ws] = some (zipU us ws) := (rfl)
@[simp] theorem rev_lst : rev1 (.lst us) = some us.reverse := (rfl)
@[simp] theorem rev_tup : rev1 (.tup us) = some us.reverse := (rfl)
@[simp] theorem back_lst : back1 (.lst us) = some (.lst us.reverse) := (rfl)
@[simp] theorem back_tup : back1 (.tup us) = some (.tup us.reverse) := (rfl)
@[simp] theorem sl_lst (lo hi : Option Int) : sl3 (.lst us) lo hi = some (.lst (cutL us lo hi)) := (rfl)
@[simp] theorem sl_tup (lo hi : Option Int) : sl3 (.tup us) lo hi = some (.tup (cutL us lo hi)) := (rfl)
@[simp] theorem sl_scr (lo hi : Option Int) : sl3 (.scr ns) lo hi = some (.lst ((cutL ns lo hi).map U.int)) := (rfl)
@[simp] theorem sl_str (lo hi : Option Int) : sl3 (.str x) lo hi = if x.length ≤ 16777216 then some (.str (cutS x lo hi)) else none := by rw [← sizeLine_val]; rfl
@[simp] theorem ix_lst' : ix2 (.lst us) (.int i) = atI us i := (rfl)
@[simp] theorem ix_tup' : ix2 (.tup us) (.int i) = atI us i := (rfl)
@[simp] theorem ix_scr' : ix2 (.scr ns) (.int i) = (atI ns i).map U.int := (rfl)
end
theorem atI_cast {A : Type} (l : List A) (n : Nat) : atI l (n : Int) = l[n]? := by
  cases h : l[n]? with
  | some x => exact atI_nat h
  | none =>
    have hl : l.length ≤ n := List.getElem?_eq_none_iff.mp h
    unfold atI ixN
    rw [if_pos (by omega), if_neg (by omega)]
    rfl
@[simp] theorem atI_nat' {A : Type} (l : List A) (n : Nat) : atI l (n : Int) = l[n]? := atI_cast l n
theorem atI_neg {A : Type} (l : List A) (k : Nat) (h : k + 1 ≤ l.length) : atI l (-((k : Int) + 1)) = l[l.length - (k + 1)]? := by
  unfold atI ixN
  rw [if_neg (by omega), if_pos (by omega)]
  show l[_]? = _
  congr 1
  omega
@[simp] theorem atI_neg1 {A : Type} (l : List A) : atI l (-1) = l.getLast? := by
  cases l with
  | nil => rfl
  | cons a l =>
    have := atI_neg (a :: l) 0 (by simp)
    rw [show (-1 : Int) = -(((0 : Nat) : Int) + 1) from rfl, this, List.getLast?_eq_getElem?]
@[simp] theorem cutL_all {A : Type} (l : List A) : cutL l none none = l := by
  unfold cutL
  rw [HT.sIx_none, HT.sIx_none, List.drop_zero, Nat.sub_zero, List.take_length]
theorem cutL_to {A : Type} (l : List A) (n : Nat) : cutL l none (some (n : Int)) = l.take n := by
  unfold cutL
  rw [HT.sIx_none, HT.sIx_nat, List.drop_zero, Nat.sub_zero, List.take_eq_take_iff]
  omega
theorem cutL_from {A : Type} (l : List A) (n : Nat) : cutL l (some (n : Int)) none = l.drop n := by
  unfold cutL
  rw [HT.sIx_none, HT.sIx_nat]
  by_cases h : n ≤ l.length
  · rw [Nat.min_eq_left h, List.take_of_length_le (by simp)]
  · rw [Nat.min_eq_right (by omega), Nat.sub_self, List.take_zero, List.drop_eq_nil_of_le (by omega)]
theorem cutL_mid {A : Type} (l : List A) (m n : Nat) : cutL l (some (m : Int)) (some (n : Int)) = (l.drop m).take (n - m) := by
  unfold cutL
  rw [HT.sIx_nat, HT.sIx_nat]
  by_cases h : m ≤ l.length
  · rw [Nat.min_eq_left h, List.take_eq_take_iff, List.length_drop]
    omega
  · rw [Nat.min_eq_right (a := m) (by omega), List.drop_length, List.take_nil, List.drop_eq_nil_of_le (by omega), List.take_nil]
@[simp] theorem atI_lit {A : Type} (l : List A) (n : Nat) : atI l (no_index (@OfNat.ofNat Int n instOfNat)) = l[@OfNat.ofNat Nat n (instOfNatNat n)]? := atI_cast l n
@[simp] theorem cutL_toL {A : Type} (l : List A) (n : Nat) : cutL l none (some (no_index (@OfNat.ofNat Int n instOfNat))) = l.take (@OfNat.ofNat Nat n (instOfNatNat n)) := cutL_to l n
@[simp] theorem cutL_fromL {A : Type} (l : List A) (n : Nat) : cutL l (some (no_index (@OfNat.ofNat Int n instOfNat))) none = l.drop (@OfNat.ofNat Nat n (instOfNatNat n)) := cutL_from l n
@[simp] theorem cutL_midL {A : Type} (l : List A) (m n : Nat) : cutL l (some (no_index (@OfNat.ofNat Int m instOfNat))) (some (no_index (@OfNat.ofNat Int n instOfNat))) = (l.drop (@OfNat.ofNat Nat m (instOfNatNat m))).take (@OfNat.ofNat Nat n (instOfNatNat n) - @OfNat.ofNat Nat m (instOfNatNat m)) := cutL_mid l m n
@[simp] theorem cutL_toN {A : Type} (l : List A) : cutL l none (some (-1)) = l.dropLast := by
  have e : HT.sIx l.length l.length (some (-1)) = l.length - 1 := by
    show (if (-1 : Int) < 0 then ((-1 : Int) + (l.length : Int)).toNat else min (-1 : Int).toNat l.length) = _
    rw [if_pos (by decide)]; omega
  unfold cutL
  rw [HT.sIx_none, e, List.drop_zero, Nat.sub_zero, List.dropLast_eq_take]
@[simp] theorem cutL_fromN {A : Type} (l : List A) : cutL l (some (-1)) none = l.drop (l.length - 1) := by
  have e : HT.sIx l.length 0 (some (-1)) = l.length - 1 := by
    show (if (-1 : Int) < 0 then ((-1 : Int) + (l.length : Int)).toNat else min (-1 : Int).toNat l.length) = _
    rw [if_pos (by decide)]; omega
  unfold cutL
  rw [HT.sIx_none, e, List.take_of_length_le (by simp)]
@[simp] theorem cutL_to' {A : Type} (l : List A) (n : Nat) : cutL l none (some (n : Int)) = l.take n := cutL_to l n
@[simp] theorem cutL_from' {A : Type} (l : List A) (n : Nat) : cutL l (some (n : Int)) none = l.drop n := cutL_from l n
@[simp] theorem cutL_mid' {A : Type} (l : List A) (m n : Nat) : cutL l (some (m : Int)) (some (n : Int)) = (l.drop m).take (n - m) := cutL_mid l m n
@[simp] theorem isi_non_str  : isiN [.non, .ty "str"] = some (.bl false) := (rfl)
@[simp] theorem isi_non_int  : isiN [.non, .ty "int"] = some (.bl false) := (rfl)
@[simp] theorem isi_non_bool  : isiN [.non, .ty "bool"] = some (.bl false) := (rfl)
@[simp] theorem isi_non_tuple  : isiN [.non, .ty "tuple"] = some (.bl false) := (rfl)
@[simp] theorem isi_non_list  : isiN [.non, .ty "list"] = some (.bl false) := (rfl)
@[simp] theorem isi_non_dict  : isiN [.non, .ty "dict"] = some (.bl false) := (rfl)
@[simp] theorem isi_bl_str (b : Bool) : isiN [(.bl b), .ty "str"] = some (.bl false) := (rfl)
@[simp] theorem isi_bl_int (b : Bool) : isiN [(.bl b), .ty "int"] = some (.bl true) := (rfl)
@[simp] theorem isi_bl_bool (b : Bool) : isiN [(.bl b), .ty "bool"] = some (.bl true) := (rfl)
@[simp] theorem isi_bl_tuple (b : Bool) : isiN [(.bl b), .ty "tuple"] = some (.bl false) := (rfl)
@[simp] theorem isi_bl_list (b : Bool) : isiN [(.bl b), .ty "list"] = some (.bl false) := (rfl)
@[simp] theorem isi_bl_dict (b : Bool) : isiN [(.bl b), .ty "dict"] = some (.bl false) := (rfl)
@[simp] theorem isi_int_str (i : Int) : isiN [(.int i), .ty "str"] = some (.bl false) := (rfl)
@[simp] theorem isi_int_int (i : Int) : isiN [(.int i), .ty "int"] = some (.bl true) := (rfl)
@[simp] theorem isi_int_bool (i : Int) : isiN [(.int i), .ty "bool"] = some (.bl false) := (rfl)
@[simp] theorem isi_int_tuple (i : Int) : isiN [(.int i), .ty "tuple"] = some (.bl false) := (rfl)
@[simp] theorem isi_int_list (i : Int) : isiN [(.int i), .ty "list"] = some (.bl false) := (rfl)
@[simp] theorem isi_int_dict (i : Int) : isiN [(.int i), .ty "dict"] = some (.bl false) := (rfl)
@[simp] theorem isi_str_str (x : Str) : isiN [(.str x), .ty "str"] = some (.bl true) := (rfl)
@[simp] theorem isi_str_int (x : Str) : isiN [(.str x), .ty "int"] = some (.bl false) := (rfl)
@[simp] theorem isi_str_bool (x : Str) : isiN [(.str x), .ty "bool"] = some (.bl false) := (rfl)
@[simp] theorem isi_str_tuple (x : Str) : isiN [(.str x), .ty "tuple"] = some (.bl false) := (rfl)
@[simp] theorem isi_str_list (x : Str) : isiN [(.str x), .ty "list"] = some (.bl false) := (rfl)
@[simp] theorem isi_str_dict (x : Str) : isiN [(.str x), .ty "dict"] = some (.bl false) := (rfl)
@[simp] theorem isi_tup_str (us : List U) : isiN [(.tup us), .ty "str"] = some (.bl false) := (rfl)
@[simp] theorem isi_tup_int (us : List U) : isiN [(.tup us), .ty "int"] = some (.bl false) := (rfl)
@[simp] theorem isi_tup_bool (us : List U) : isiN [(.tup us), .ty "bool"] = some (.bl false) := (rfl)
@[simp] theorem isi_tup_tuple (us : List U) : isiN [(.tup us), .ty "tuple"] = some (.bl true) := (rfl)
@[simp] theorem isi_tup_list (us : List U) : isiN [(.tup us), .ty "list"] = some (.bl false) := (rfl)
@[simp] theorem isi_tup_dict (us : List U) : isiN [(.tup us), .ty "dict"] = some (.bl false) := (rfl)
@[simp] theorem isi_lst_str (us : List U) : isiN [(.lst us), .ty "str"] = some (.bl false) := (rfl)
@[simp] theorem isi_lst_int (us : List U) : isiN [(.lst us), .ty "int"] = some (.bl false) := (rfl)
@[simp] theorem isi_lst_bool (us : List U) : isiN [(.lst us), .ty "bool"] = some (.bl false) := (rfl)
@[simp] theorem isi_lst_tuple (us : List U) : isiN [(.lst us), .ty "tuple"] = some (.bl false) := (rfl)
@[simp] theorem isi_lst_list (us : List U) : isiN [(.lst us), .ty "list"] = some (.bl true) := (rfl)
@[simp] theorem isi_lst_dict (us : List U) : isiN [(.lst us), .ty "dict"] = some (.bl false) := (rfl)
@[simp] theorem isi_dct_str (ks us : List U) : isiN [(.dct ks us), .ty "str"] = some (.bl false) := (rfl)
@[simp] theorem isi_dct_int (ks us : List U) : isiN [(.dct ks us), .ty "int"] = some (.bl false) := (rfl)
@[simp] theorem isi_dct_bool (ks us : List U) : isiN [(.dct ks us), .ty "bool"] = some (.bl false) := (rfl)
@[simp] theorem isi_dct_tuple (ks us : List U) : isiN [(.dct ks us), .ty "tuple"] = some (.bl false) := (rfl)
@[simp] theorem isi_dct_list (ks us : List U) : isiN [(.dct ks us), .ty "list"] = some (.bl false) := (rfl)
@[simp] theorem isi_dct_dict (ks us : List U) : isiN [(.dct ks us), .ty "dict"] = some (.bl true) := (rfl)
@[simp] theorem isi_scr_str (ns : List Int) : isiN [(.scr ns), .ty "str"] = some (.bl false) := (rfl)
@[simp] theorem isi_scr_int (ns : List Int) : isiN [(.scr ns), .ty "int"] = some (.bl false) := (rfl)
@[simp] theorem isi_scr_bool (ns : List Int) : isiN [(.scr ns), .ty "bool"] = some (.bl false) := (rfl)
@[simp] theorem isi_scr_tuple (ns : List Int) : isiN [(.scr ns), .ty "tuple"] = some (.bl false) := (rfl)
@[simp] theorem isi_scr_list (ns : List Int) : isiN [(.scr ns), .ty "list"] = some (.bl true) := (rfl)
@[simp] theorem isi_scr_dict (ns : List Int) : isiN [(.scr ns), .ty "dict"] = some (.bl false) := (rfl)
@[simp] theorem is_non_non  : is2 .non .non = some (.bl true) := (rfl)
@[simp] theorem isnot_non_non  : isnot2 .non .non = some (.bl false) := (rfl)
@[simp] theorem is_bl_non (b : Bool) : is2 (.bl b) .non = some (.bl false) := (rfl)
@[simp] theorem isnot_bl_non (b : Bool) : isnot2 (.bl b) .non = some (.bl true) := (rfl)
@[simp] theorem is_int_non (i : Int) : is2 (.int i) .non = some (.bl false) := (rfl)
@[simp] theorem isnot_int_non (i : Int) : isnot2 (.int i) .non = some (.bl true) := (rfl)
@[simp] theorem is_str_non (x : Str) : is2 (.str x) .non = some (.bl false) := (rfl)
@[simp] theorem isnot_str_non (x : Str) : isnot2 (.str x) .non = some (.bl true) := (rfl)
@[simp] theorem is_tup_non (us : List U) : is2 (.tup us) .non = some (.bl false) := (rfl)
@[simp] theorem isnot_tup_non (us : List U) : isnot2 (.tup us) .non = some (.bl true) := (rfl)
@[simp] theorem is_lst_non (us : List U) : is2 (.lst us) .non = some (.bl false) := (rfl)
@[simp] theorem isnot_lst_non (us : List U) : isnot2 (.lst us) .non = some (.bl true) := (rfl)
@[simp] theorem is_dct_non (ks us : List U) : is2 (.dct ks us) .non = some (.bl false) := (rfl)
@[simp] theorem isnot_dct_non (ks us : List U) : isnot2 (.dct ks us) .non = some (.bl true) := (rfl)
@[simp] theorem is_scr_non (ns : List Int) : is2 (.scr ns) .non = none := (rfl)
@[simp] theorem isnot_scr_non (ns : List Int) : isnot2 (.scr ns) .non = none := (rfl)
@[simp] theorem is_bl_bl (a b : Bool) : is2 (.bl a) (.bl b) = some (.bl (decide (a = b))) := (rfl)
@[simp] theorem isnot_bl_bl (a b : Bool) : isnot2 (.bl a) (.bl b) = some (.bl (!decide (a = b))) := (rfl)
end D
namespace C
open PySem L2 D
abbrev tS (ws : List Str) : U := .tup (ws.map U.str)
abbrev lS (ws : List Str) : U := .lst (ws.map U.str)
@[simp] theorem ofS_inj (a b : String) : (Str.ofString a = Str.ofString b) ↔ a = b := by
  refine ⟨fun h => ?_, fun h => by rw [h]⟩
  have h1 : cpsOfBytes 0 0 a.toByteArray.data.toList = cpsOfBytes 0 0 b.toByteArray.data.toList := by
    have := congrArg (fun x : Str => x.cps.toList) h
    simpa [Str.ofString] using this
  rw [cpsOfBytes_string, cpsOfBytes_string] at h1
  have h2 : a.toList = b.toList := by
    have inj : ∀ l m : List Char, l.map Char.toNat = m.map Char.toNat → l = m := by
      intro l
      induction l with
      | nil => intro m h; cases m with
        | nil => rfl
        | cons _ _ => cases h
      | cons c l ih => intro m h; cases m with
        | nil => cases h
        | cons d m =>
          simp only [List.map_cons, List.cons.injEq] at h
          rw [ih m h.2, Char.ext (UInt32.toNat_inj.mp h.1)]
    exact inj _ _ h1
  rw [← String.ofList_toList (s := a), h2, String.ofList_toList]
theorem eqU_str1 (x y : Str) : eqU (.str y) (.str x) = decide (y = x) := eqU_str y x
theorem any_txt (x : Str) : ∀ ws : List Str, ((ws.map U.str).any fun y => eqU y (.str x)) = decide (x ∈ ws)
  | [] => rfl
  | w :: ws => by
    rw [List.map_cons, List.any_cons, any_txt x ws, eqU_str1]
    rw [Bool.eq_iff_iff, Bool.or_eq_true, decide_eq_true_eq, decide_eq_true_eq, decide_eq_true_eq, List.mem_cons]
    exact or_congr eq_comm Iff.rfl
theorem flat_txt : ∀ ws : List Str, (ws.map U.str).all flatU = true
  | [] => rfl
  | w :: ws => by rw [List.map_cons, List.all_cons, flat_txt ws]; rfl
@[simp] theorem in_txt (x : Str) (ws : List Str) : in2 (.str x) (tS ws) = some (.bl (decide (x ∈ ws))) := by
  show (if flatU (.str x) && (ws.map U.str).all flatU then some (U.bl ((ws.map U.str).any fun y => eqU y (.str x))) else none) = _
  rw [flat_txt, any_txt]; rfl
@[simp] theorem nin_txt (x : Str) (ws : List Str) : nin2 (.str x) (tS ws) = some (.bl (!decide (x ∈ ws))) := by
  show (if flatU (.str x) && (ws.map U.str).all flatU then some (U.bl (!(ws.map U.str).any fun y => eqU y (.str x))) else none) = _
  rw [flat_txt, any_txt]; rfl
theorem eqF_str (n : Nat) (a b : Str) : eqF (n + 1) (.str a) (.str b) = some (decide (a = b)) := by
  show some (a == b) = _
  by_cases q : a = b <;> simp [q]
theorem eqF_int (n : Nat) (a b : Int) : eqF (n + 1) (.int a) (.int b) = some (decide (a = b)) := by
  show some (a == b) = _
  by_cases q : a = b <;> simp [q]
@[simp] theorem eq_str (a b : Str) : eq2 (.str a) (.str b) = some (.bl (decide (a = b))) := by unfold eq2; rw [eqF_str 59]; rfl
@[simp] theorem ne_str (a b : Str) : ne2 (.str a) (.str b) = some (.bl (!decide (a = b))) := by unfold ne2; rw [eqF_str 59]; rfl
@[simp] theorem eq_int (a b : Int) : eq2 (.int a) (.int b) = some (.bl (decide (a = b))) := by unfold eq2; rw [eqF_int 59]; rfl
@[simp] theorem ne_int (a b : Int) : ne2 (.int a) (.int b) = some (.bl (!decide (a = b))) := by unfold ne2; rw [eqF_int 59]; rfl
@[simp] theorem eq_bl (a b : Bool) : eq2 (.bl a) (.bl b) = some (.bl (decide (a = b))) := by cases a <;> cases b <;> rfl
@[simp] theorem ne_bl (a b : Bool) : ne2 (.bl a) (.bl b) = some (.bl (!decide (a = b))) := by cases a <;> cases b <;> rfl
theorem eqZ_nil (f : U → U → Option Bool) (us : List U) : eqZ f us [] = some true := by cases us <;> rfl
@[simp] theorem eq_nilT (us : List U) : eq2 (.tup us) (.tup []) = some (.bl us.isEmpty) := by
  unfold eq2 eqF
  rw [eqZ_nil]
  cases us <;> rfl
@[simp] theorem ne_nilT (us : List U) : ne2 (.tup us) (.tup []) = some (.bl (!us.isEmpty)) := by
  unfold ne2 eqF
  rw [eqZ_nil]
  cases us <;> rfl
@[simp] theorem eq_nilL (us : List U) : eq2 (.lst us) (.lst []) = some (.bl us.isEmpty) := by
  cases us <;> rfl
@[simp] theorem ne_nilL (us : List U) : ne2 (.lst us) (.lst []) = some (.bl (!us.isEmpty)) := by
  cases us <;> rfl
theorem txts_txt (ws : List Str) : txts (tS ws) = some ws := by
  unfold tS txts
  exact strs_map ws
def bothS (a b : List Str) : List Str := a.filter fun x => decide (x ∈ b)
def joinS (a b : List Str) : List Str := sortS (dedS (a ++ b))
end C
namespace C
open PySem L2 D
end C
namespace C
open PySem L2 D
def tab_PARTS : List (Str × U) := [(Str.ofString "set", (.tup [(.str (Str.ofString "word")), (.str (Str.ofString "number"))])), (Str.ofString "same", (.tup [(.str (Str.ofString "word")), (.str (Str.ofString "word"))])), (Str.ofString "sum", (.tup [(.str (Str.ofString "word")), (.str (Str.ofString "word")), (.str (Str.ofString "word"))])), (Str.ofString "less", (.tup [(.str (Str.ofString "word")), (.str (Str.ofString "word")), (.str (Str.ofString "word"))])), (Str.ofString "hold", (.tup [(.str (Str.ofString "word")), (.str (Str.ofString "word")), (.str (Str.ofString "args"))])), (Str.ofString "call", (.tup [(.str (Str.ofString "word")), (.str (Str.ofString "word")), (.str (Str.ofString "args")), (.str (Str.ofString "leaves"))])), (Str.ofString "last", (.tup [(.str (Str.ofString "word")), (.str (Str.ofString "args")), (.str (Str.ofString "leaves"))])), (Str.ofString "give", (.tup [(.str (Str.ofString "word"))])), (Str.ofString "keep", (.tup [(.str (Str.ofString "word")), (.str (Str.ofString "word"))])), (Str.ofString "kept", (.tup [(.str (Str.ofString "word")), (.str (Str.ofString "word"))])), (Str.ofString "skip", (.tup [(.str (Str.ofString "word")), (.str (Str.ofString "over"))])), (Str.ofString "over", (.tup [(.str (Str.ofString "over"))])), (Str.ofString "on", (.tup [])), (Str.ofString "count", (.tup [])), (Str.ofString "ask", (.tup [(.str (Str.ofString "word")), (.str (Str.ofString "over"))])), (Str.ofString "deed", (.tup [(.str (Str.ofString "word")), (.str (Str.ofString "word"))])), (Str.ofString "done", (.tup [(.str (Str.ofString "word")), (.str (Str.ofString "word"))]))]
def b_are_args : DS := (sSeq (sRet (andV (appN isiN (acons (var 0) (acons (cst (.ty "tuple")) anil))) (andV (bin le2 (appN lenN (acons (var 0) anil)) (cst (.int 4))) (appN allN (acons (newL (compD (itemsD (var 0)) [1] (tgN 1) yesT (appU f_is_word (acons (var 1) anil)))) anil))))) sNil)
def f_are_args : List U → Store → Rs U := runB 2 1 b_are_args
def b_is_whole : DS := (sSeq (sRet (andV (appN isiN (acons (var 0) (acons (cst (.ty "int")) anil))) (notV (appN isiN (acons (var 0) (acons (cst (.ty "bool")) anil)))))) sNil)
def f_is_whole : List U → Store → Rs U := runB 1 1 b_is_whole
def b_is_number : DS := (sSeq (sRet (andV (appU f_is_whole (acons (var 0) anil)) (bin le2 (appN absN (acons (var 0) anil)) (cst (.int 1000000000000000000))))) sNil)
def f_is_number : List U → Store → Rs U := runB 1 1 b_is_number
def b_is_part : DS := (sSeq (sIf (tst (bin eq2 (var 0) (cst (.str (Str.ofString "word"))))) (sSeq (sRet (appU f_is_word (acons (var 1) anil))) sNil) sNil) (sSeq (sIf (tst (bin eq2 (var 0) (cst (.str (Str.ofString "number"))))) (sSeq (sRet (appU f_is_number (acons (var 1) anil))) sNil) sNil) (sSeq (sIf (tst (bin eq2 (var 0) (cst (.str (Str.ofString "args"))))) (sSeq (sRet (appU f_are_args (acons (var 1) anil))) sNil) sNil) (sSeq (sIf (tst (bin eq2 (var 0) (cst (.str (Str.ofString "leaves"))))) (sSeq (sRet (appU f_are_leaves (acons (var 1) anil))) sNil) sNil) (sSeq (sRet (andV (appU f_is_whole (acons (var 1) anil)) (bin gt2 (var 1) (cst (.int 0))))) sNil)))))
def f_is_part : List U → Store → Rs U := runB 2 2 b_is_part
def b_is_row : DS := (sSeq (sIf (orT (notT (tst (appN isiN (acons (var 0) (acons (cst (.ty "tuple")) anil))))) (orT (tst (bin eq2 (var 0) (appN szT anil))) (notT (tst (appN isiN (acons (bin ix2 (var 0) (cst (.int 0))) (acons (cst (.ty "str")) anil))))))) (sSeq (sRet (cst (.bl false))) sNil) sNil) (sSeq (sIf (orT (tst (ap1 (tabNot tab_PARTS) (bin ix2 (var 0) (cst (.int 0))))) (tst (bin ne2 (appN lenN (acons (var 0) anil)) (bin add2 (appN lenN (acons (ap1 (tabGet tab_PARTS) (bin ix2 (var 0) (cst (.int 0)))) anil)) (cst (.int 1)))))) (sSeq (sRet (cst (.bl false))) sNil) sNil) (sSeq (sRet (appN allN (acons (newL (compD (itA zipN (acons (ap1 (tabGet tab_PARTS) (bin ix2 (var 0) (cst (.int 0)))) (acons (slD (var 0) (soO (cst (.int 1))) noO) anil))) [1, 2] (tgT [1, 2]) yesT (appU f_is_part (acons (var 1) (acons (var 2) anil))))) anil))) sNil)))
def f_is_row : List U → Store → Rs U := runB 3 1 b_is_row
theorem isi_ev {u : U} {t n : String} (ht : tyU u = some t) (hn : n ∈ tyNames) : isiN [u, .ty n] = some (.bl (isB t n)) := by
  simp [isiN, ht, hn]
def wholeU : U → Bool
  | .int _ => true
  | _ => false
def numbU : U → Bool
  | .int i => decide (-1000000000000000000 ≤ i ∧ i ≤ 1000000000000000000)
  | _ => false
def overU : U → Bool
  | .int i => decide (0 < i)
  | _ => false
def argsU : U → Bool
  | .tup us => decide (us.length ≤ 4) && us.all wordU
  | _ => false
def tame1 : U → Bool
  | .tup us => us.all tame
  | u => tame u
def tame2 : U → Bool
  | .tup us => us.all tame1
  | u => tame u
theorem tame1_ty {u : U} (h : tame1 u = true) : ∃ t, tyU u = some t := by
  cases u <;> first | exact ⟨_, rfl⟩ | cases h
theorem tame1_tame {u : U} (h : tame1 u = true) : tame u = true := by
  cases u <;> first | exact h | rfl
theorem is_whole_ev {u : U} {t : String} (h : tyU u = some t) (st : Store) : f_is_whole [u] st = .ok (.bl (wholeU u)) st := by
  unfold f_is_whole b_is_whole
  cases u <;> first | cases h | skip
  all_goals simp [isiN, tyU, tyNames, isB, wholeU]
theorem is_number_ev {u : U} {t : String} (h : tyU u = some t) (st : Store) : f_is_number [u] st = .ok (.bl (numbU u)) st := by
  have e := is_whole_ev h st
  unfold f_is_number b_is_number
  cases u <;> first | cases h | skip
  case int i =>
    have q : ((if i < 0 then -i else i) ≤ 1000000000000000000) ↔ (-1000000000000000000 ≤ i ∧ i ≤ 1000000000000000000) := by split <;> omega
    simp [e, wholeU, absN, le2, numbU, q]
  all_goals simp [e, wholeU, numbU]
theorem all_bls (bs : List Bool) : allN [.lst (bs.map U.bl)] = some (.bl (bs.all id)) := by
  simp [allN, bools_map]
theorem are_args_ev {u : U} (h : tame1 u = true) (st : Store) : f_are_args [u] st = .ok (.bl (argsU u)) st := by
  unfold f_are_args b_are_args
  cases u <;> first | cases h | skip
  case tup us =>
    have h' : us.all tame = true := h
    rw [List.all_eq_true] at h'
    by_cases h4 : us.length ≤ 4
    · have i4 : (us.length : Int) ≤ 4 := by omega
      have hz : us.length ≤ 16777216 := by omega
      have hc : compL (tgN 1) yesT (appU f_is_word (acons (var 1) anil)) (us.map id) [.val (.tup us), .un] st = .ok (us.map fun u => U.bl (wordU u)) st :=
        comp_allM us fun u hu => ⟨_, rfl, by simp [is_word_any (h' u hu) st]⟩
      rw [List.map_id] at hc
      have ha := all_bls (us.map wordU)
      rw [List.map_map] at ha
      have ha' : allN [.lst (us.map fun u => U.bl (wordU u))] = some (.bl (us.all wordU)) := by
        rw [show (fun u => U.bl (wordU u)) = U.bl ∘ wordU from rfl, ha, List.all_map]
        rfl
      have it : items (.tup us) = some us := rfl
      simp [isiN, tyU, tyNames, isB, lenN, le2, i4, it, hz, wipeE, hc, ha', argsU, h4]
    · have i4 : ¬ (us.length : Int) ≤ 4 := by omega
      simp [isiN, tyU, tyNames, isB, lenN, le2, i4, argsU, h4]
  all_goals simp [isiN, tyU, tyNames, isB, argsU]
theorem are_leaves_ev {u : U} (h : tame1 u = true) (st : Store) : f_are_leaves [u] st = .ok (.bl (areL u)) st := by
  cases u <;> first | cases h | skip
  case tup us => exact are_leaves_tup us h st
  all_goals exact are_leaves_no rfl (by decide) st
abbrev wWord : Str := Str.ofString "word"
abbrev wNumber : Str := Str.ofString "number"
abbrev wArgs : Str := Str.ofString "args"
abbrev wLeaves : Str := Str.ofString "leaves"
def partU (s : Str) (u : U) : Bool := if s = wWord then wordU u else if s = wNumber then numbU u else if s = wArgs then argsU u else if s = wLeaves then areL u else overU u
theorem is_part_ev (s : Str) {u : U} (h : tame1 u = true) (st : Store) : f_is_part [.str s, u] st = .ok (.bl (partU s u)) st := by
  obtain ⟨t, ht⟩ := tame1_ty h
  have e1 := is_word_any (tame1_tame h) st
  have e2 := is_number_ev ht st
  have e3 := are_args_ev h st
  have e4 := are_leaves_ev h st
  have e5 := is_whole_ev ht st
  unfold f_is_part b_is_part partU
  by_cases q1 : s = wWord
  · simp [q1, e1]
  · by_cases q2 : s = wNumber
    · simp [q2, e2]
    · by_cases q3 : s = wArgs
      · simp [q3, e3]
      · by_cases q4 : s = wLeaves
        · simp [q4, e4]
        · simp only [wWord, wNumber, wArgs, wLeaves] at q1 q2 q3 q4
          cases u <;> first | (simp [q1, q2, q3, q4, e5, wholeU, gt2, overU]; done) | cases h
def tabS : List (Str × List Str) := [(Str.ofString "set", [wWord, wNumber]), (Str.ofString "same", [wWord, wWord]), (Str.ofString "sum", [wWord, wWord, wWord]), (Str.ofString "less", [wWord, wWord, wWord]), (Str.ofString "hold", [wWord, wWord, wArgs]), (Str.ofString "call", [wWord, wWord, wArgs, wLeaves]),
  (Str.ofString "last", [wWord, wArgs, wLeaves]), (Str.ofString "give", [wWord]), (Str.ofString "keep", [wWord, wWord]), (Str.ofString "kept", [wWord, wWord]), (Str.ofString "skip", [wWord, Str.ofString "over"]), (Str.ofString "over", [Str.ofString "over"]), (Str.ofString "on", []), (Str.ofString "count", []),
  (Str.ofString "ask", [wWord, Str.ofString "over"]), (Str.ofString "deed", [wWord, wWord]), (Str.ofString "done", [wWord, wWord])]
theorem tab_eq : tab_PARTS = tabS.map fun p => (p.1, tS p.2) := rfl
def lookS (w : Str) : Option (List Str) := (tabS.find? fun p => decide (p.1 = w)).map (·.2)
theorem tab_at (w : Str) : tabAt tab_PARTS w = (lookS w).map tS := by
  unfold tabAt lookS
  rw [tab_eq, List.find?_map, Option.map_map, Option.map_map]
  rfl
theorem look_len {w : Str} {ss : List Str} (h : lookS w = some ss) : ss.length ≤ 4 := by
  unfold lookS at h
  rw [Option.map_eq_some_iff] at h
  obtain ⟨p, h1, rfl⟩ := h
  have := List.mem_of_find?_eq_some h1
  have all : ∀ p ∈ tabS, p.2.length ≤ 4 := by decide
  exact all p this
def rowU : U → Bool
  | .tup (.str w :: ps) => match lookS w with
    | some ss => decide (ps.length = ss.length) && (List.zipWith partU ss ps).all id
    | none => false
  | _ => false
theorem zipU_txt (ss : List Str) (ps : List U) : zipU (ss.map U.str) ps = (ss.zip ps).map fun p => U.tup [.str p.1, p.2] := by
  unfold zipU
  rw [List.zipWith_map_left, ← List.map_zipWith, List.zip]
  induction ss generalizing ps with
  | nil => rfl
  | cons s ss ih => cases ps with
    | nil => rfl
    | cons p ps => simp [ih]
theorem cut_tail {A : Type} (a : A) (l : List A) : cutL (a :: l) (some 1) none = l := by
  unfold cutL
  rw [HT.sIx_none, show ((1 : Int)) = ((1 : Nat) : Int) from rfl, HT.sIx_nat]
  simp
set_option maxHeartbeats 2000000 in
theorem is_row_ev {u : U} (h : tame2 u = true) (st : Store) : f_is_row [u] st = .ok (.bl (rowU u)) st := by
  unfold f_is_row b_is_row
  cases u <;> first | cases h | skip
  case tup us =>
    cases us with
    | nil => simp [rowU]
    | cons x ps =>
      have h' : (x :: ps).all tame1 = true := h
      rw [List.all_eq_true] at h'
      obtain ⟨t, ht⟩ := tame1_ty (h' x (List.mem_cons_self ..))
      have ix0 : ix2 (.tup (x :: ps)) (.int 0) = some x := ix_tup (us := x :: ps) (k := 0) rfl
      by_cases hs : t = "str"
      · subst hs
        obtain ⟨w, rfl⟩ : ∃ w, x = .str w := by
          cases x with
          | str w => exact ⟨w, rfl⟩
          | _ => simp [tyU] at ht
        have ht2 := tab_at w
        cases hl : lookS w with
        | none =>
          rw [hl] at ht2
          simp [tabNot, ht2, rowU, hl]
        | some ss =>
          rw [hl] at ht2
          have ht2 : tabAt tab_PARTS w = some (tS ss) := ht2
          have h4 := look_len hl
          have sl1 : sl3 (.tup (.str w :: ps)) (some 1) none = some (.tup ps) := by
            unfold sl3
            simp only
            rw [cut_tail]
          have hc : compL (tgT [1, 2]) yesT (appU f_is_part (acons (var 1) (acons (var 2) anil))) (zipU (ss.map U.str) ps) [.val (.tup (.str w :: ps)), .un, .un] st = .ok ((ss.zip ps).map fun p => U.bl (partU p.1 p.2)) st := by
            rw [zipU_txt]
            refine comp_allM (ss.zip ps) fun p hp => ⟨_, rfl, ?_⟩
            have := is_part_ev p.1 (h' p.2 (List.mem_cons_of_mem _ (List.of_mem_zip hp).2)) st
            simp [this]
          have ha := all_bls ((ss.zip ps).map fun p => partU p.1 p.2)
          rw [List.map_map] at ha
          have hz : List.zipWith partU ss ps = (ss.zip ps).map fun p => partU p.1 p.2 := by
            rw [List.zip, List.map_zipWith]
          have zl : (zipU (ss.map U.str) ps).length ≤ 16777216 := by
            unfold zipU
            rw [List.length_zipWith, List.length_map]
            omega
          have hn : ∀ a b : Nat, (decide ((a : Int) + 1 = (b : Int) + 1)) = decide (a = b) := fun a b => by
            by_cases q : a = b
            · simp [q]
            · have : ¬ ((a : Int) + 1 = (b : Int) + 1) := by omega
              simp [q]; omega
          have hx : ((ps.length : Int) + 1 = (ss.length : Int) + 1) ↔ ps.length = ss.length := by omega
          by_cases q : ps.length = ss.length
          · have ha' : allN [.lst ((ss.zip ps).map fun p => U.bl (partU p.1 p.2))] = some (.bl (((ss.zip ps).map fun p => partU p.1 p.2).all id)) := ha
            simp only [tS] at *
            simp [tabNot, tabGet, ht2, q, zl, wipeE, hc, ha', rowU, hl, hz, -List.all_map]
          · simp only [tS] at *
            simp [tabNot, tabGet, ht2, q, rowU, hl, hx]
      · have e1 : isiN [x, .ty "str"] = some (.bl false) := by rw [isi_ev ht (by decide)]; simp [isB, hs]
        have e2 : rowU (.tup (x :: ps)) = false := by
          cases x <;> first | rfl | skip
          cases ht; exact absurd rfl hs
        have e3 : isiN [.tup (x :: ps), .ty "tuple"] = some (.bl true) := rfl
        simp [e1, e2]
  all_goals simp [rowU]
end C
namespace C
open PySem L2 D
theorem for_first {T : Type} {t : Tg} {b : DS} {st : Store} {f : T → U} (I : D.Env → Prop) (c : T → Bool) (val : T → U) : ∀ (l : List T) (env : D.Env), I env → (∀ x ∈ l, ∀ env, I env → ∃ a, t (f x) = some a ∧ if c x = true then b (setE env a) st = .rt (val x) st else ∃ env', b (setE env a) st = .nx env' st ∧ I env') →
    (∃ x, l.find? c = some x ∧ forL t b (l.map f) env st = .rt (val x) st) ∨ (l.find? c = none ∧ ∃ env', forL t b (l.map f) env st = .nx env' st ∧ I env')
  | [], env, hI, _ => .inr ⟨rfl, env, rfl, hI⟩
  | x :: l, env, hI, h => by
    obtain ⟨a, h1, h2⟩ := h x (List.mem_cons_self ..) env hI
    by_cases q : c x = true
    · rw [if_pos q] at h2
      exact .inl ⟨x, List.find?_cons_of_pos q, by rw [List.map_cons, for_cons, h1]; simp [h2]⟩
    · rw [if_neg q] at h2
      obtain ⟨env', h3, h4⟩ := h2
      rcases for_first I c val l env' h4 fun y hy => h y (List.mem_cons_of_mem _ hy) with ⟨y, e1, e2⟩ | ⟨e1, env2, e2, e3⟩
      · exact .inl ⟨y, by rw [List.find?_cons_of_neg (by simpa using q)]; exact e1, by rw [List.map_cons, for_cons, h1]; simp [h3, e2]⟩
      · exact .inr ⟨by rw [List.find?_cons_of_neg (by simpa using q)]; exact e1, env2, by rw [List.map_cons, for_cons, h1]; simp [h3, e2], e3⟩
theorem words_of {us : List U} (h : us.all wordU = true) : ∃ ws : List Str, us = ws.map U.str ∧ ∀ w ∈ ws, isWordS w = true := by
  induction us with
  | nil => exact ⟨[], rfl, fun _ h => nomatch h⟩
  | cons u us ih =>
    rw [List.all_cons, Bool.and_eq_true] at h
    obtain ⟨x, rfl, hx⟩ := wordU_str h.1
    obtain ⟨ws, rfl, hw⟩ := ih h.2
    exact ⟨x :: ws, rfl, fun w hw' => by rcases List.mem_cons.mp hw' with q | q; (subst q; exact hx); exact hw w q⟩
def upS : List Str → Bool
  | x :: y :: l => ltC x y && upS (y :: l)
  | _ => true
theorem ltC_trans {x y z : Str} (h1 : ltC x y = true) (h2 : ltC y z = true) : ltC x z = true := by
  unfold ltC at *
  rw [decide_eq_true_eq] at *
  exact List.lt_trans h1 h2
theorem ltC_irrefl (x : Str) : ltC x x = false := by
  unfold ltC
  rw [decide_eq_false_iff_not]
  exact List.lt_irrefl _
theorem up_head : ∀ (l : List Str) (x : Str), upS (x :: l) = true → ∀ y ∈ l, ltC x y = true
  | [], _, _, _, h => nomatch h
  | y :: l, x, h, z, hz => by
    unfold upS at h
    rw [Bool.and_eq_true] at h
    rcases List.mem_cons.mp hz with q | q
    · subst q; exact h.1
    · exact ltC_trans h.1 (up_head l y h.2 z q)
theorem up_pw : ∀ (l : List Str), upS l = true → l.Pairwise fun x y => ltC x y = true
  | [], _ => .nil
  | x :: l, h => .cons (up_head l x h) (up_pw l (by
      cases l with
      | nil => rfl
      | cons y l => unfold upS at h; rw [Bool.and_eq_true] at h; exact h.2))
theorem pw_up : ∀ (l : List Str), (l.Pairwise fun x y => ltC x y = true) → upS l = true
  | [], _ => rfl
  | [_], _ => rfl
  | x :: y :: l, h => by
    unfold upS
    rw [Bool.and_eq_true]
    cases h with
    | cons h1 h2 => exact ⟨h1 y (List.mem_cons_self ..), pw_up (y :: l) h2⟩
theorem ded_id : ∀ {l : List Str}, l.Nodup → dedS l = l
  | [], _ => rfl
  | x :: l, h => by
    cases h with
    | cons h1 h2 =>
      unfold dedS plusS
      rw [ded_id h2, if_neg (fun z => h1 x z rfl)]
theorem up_iff (l : List Str) : upS l = decide (l = sortS (dedS l)) := by
  cases h : upS l with
  | true =>
    have hp := up_pw l h
    have nd : l.Nodup := hp.imp fun {a b} q e => by subst e; rw [ltC_irrefl] at q; cases q
    have le : l.Pairwise leS := hp.imp fun {a b} q => by
      rw [leS_iff]
      cases z : ltC b a with
      | false => rfl
      | true => have := ltC_trans q z; rw [ltC_irrefl] at this; cases this
    have e : l = sortS (dedS l) := by
      rw [ded_id nd]
      exact (sort_perm l).symm.eq_of_pairwise (fun a b _ _ h1 h2 => leS_anti h1 h2) le (sort_sorted l)
    exact (decide_eq_true e).symm
  | false =>
    symm
    rw [decide_eq_false_iff_not]
    intro e
    have h1 : l.Pairwise leS := by rw [e]; exact sort_sorted _
    have h2 : l.Nodup := by rw [e]; exact ((sort_perm _).nodup_iff).mpr (ded_nodup _)
    have h3 : l.Pairwise fun x y => ltC x y = true := by
      have := List.Pairwise.and h1 h2
      refine this.imp fun {a b} q => ?_
      cases z : ltC a b with
      | true => rfl
      | false => exact absurd (leS_anti q.1 ((leS_iff b a).mpr z)) q.2
    rw [pw_up l h3] at h
    cases h
theorem range_all_succ (n : Nat) (p : Nat → Bool) : (List.range (n + 1)).all p = (p 0 && (List.range n).all fun k => p (k + 1)) := by
  rw [List.range_succ_eq_map, List.all_cons, List.all_map]
  rfl
theorem getD_str (ws : List Str) (k : Nat) (h : k < ws.length) : (ws.map U.str).getD k .non = .str ws[k] := by
  rw [List.getD_eq_getElem?_getD, List.getElem?_map, List.getElem?_eq_getElem h]; rfl
theorem areL_txt (ws : List Str) (h : ∀ w ∈ ws, isWordS w = true) : areL (tS ws) = (decide (ws.length ≤ 8) && decide (ws = sortS (dedS ws))) := by
  rw [← up_iff]
  unfold areL
  simp only [List.length_map]
  congr 1
  have key : ∀ (l : List Str) (x : Str), ((List.range l.length).all fun k => ltC ((x :: l).getD k Str.empty) (l.getD k Str.empty)) = upS (x :: l) := by
    intro l
    induction l with
    | nil => intro x; rfl
    | cons y l ih =>
      intro x
      rw [List.length_cons, range_all_succ]
      show (ltC x y && _) = (ltC x y && upS (y :: l))
      rw [← ih y]
      rfl
  cases ws with
  | nil => rfl
  | cons x l =>
    rw [List.length_cons, range_all_succ]
    have h0 : leafAt ((x :: l).map U.str) 0 = true := by
      unfold leafAt
      simp [wordU, h x (List.mem_cons_self ..)]
    rw [h0, Bool.true_and, ← key l x, Bool.eq_iff_iff, List.all_eq_true, List.all_eq_true]
    have each : ∀ k ∈ List.range l.length, leafAt ((x :: l).map U.str) (k + 1) = ltC ((x :: l).getD k Str.empty) (l.getD k Str.empty) := by
      intro k hk
      have hk := List.mem_range.mp hk
      unfold leafAt
      rw [getD_str (x :: l) (k + 1) (by simp; omega), Nat.add_sub_cancel, getD_str (x :: l) k (by simp; omega)]
      have e1 : (x :: l)[k + 1]'(by simp; omega) = l[k] := rfl
      have e2 : (x :: l).getD k Str.empty = (x :: l)[k]'(by simp; omega) := by
        rw [List.getD_eq_getElem?_getD, List.getElem?_eq_getElem (by simp; omega)]; rfl
      have e3 : l.getD k Str.empty = l[k] := by
        rw [List.getD_eq_getElem?_getD, List.getElem?_eq_getElem hk]; rfl
      rw [e1, e2, e3]
      simp [wordU, ltU, h _ (List.mem_cons_of_mem _ (List.getElem_mem hk))]
    exact ⟨fun q k hk => by rw [← each k hk]; exact q k hk, fun q k hk => by rw [each k hk]; exact q k hk⟩
end C
namespace C
open PySem L2 D
inductive Row where
  | set (x : Str) (n : Int) | same (x a : Str) | sum (x a b : Str) | less (x a b : Str) | hold (x n : Str) (as : List Str) | call (x f : Str) (as vs : List Str) | last (f : Str) (as vs : List Str) | give (a : Str)
  | keep (c a : Str) | kept (x c : Str) | skip (a : Str) (k : Int) | over (k : Int) | on | count | ask (w : Str) (k : Int) | deed (w a : Str) | done (w a : Str)
  deriving DecidableEq
def Row.u : Row → U
  | .set x n => .tup [.str (Str.ofString "set"), .str x, .int n]
  | .same x a => .tup [.str (Str.ofString "same"), .str x, .str a]
  | .sum x a b => .tup [.str (Str.ofString "sum"), .str x, .str a, .str b]
  | .less x a b => .tup [.str (Str.ofString "less"), .str x, .str a, .str b]
  | .hold x n as => .tup [.str (Str.ofString "hold"), .str x, .str n, tS as]
  | .call x f as vs => .tup [.str (Str.ofString "call"), .str x, .str f, tS as, tS vs]
  | .last f as vs => .tup [.str (Str.ofString "last"), .str f, tS as, tS vs]
  | .give a => .tup [.str (Str.ofString "give"), .str a]
  | .keep c a => .tup [.str (Str.ofString "keep"), .str c, .str a]
  | .kept x c => .tup [.str (Str.ofString "kept"), .str x, .str c]
  | .skip a k => .tup [.str (Str.ofString "skip"), .str a, .int k]
  | .over k => .tup [.str (Str.ofString "over"), .int k]
  | .on => .tup [.str (Str.ofString "on")]
  | .count => .tup [.str (Str.ofString "count")]
  | .ask w k => .tup [.str (Str.ofString "ask"), .str w, .int k]
  | .deed w a => .tup [.str (Str.ofString "deed"), .str w, .str a]
  | .done w a => .tup [.str (Str.ofString "done"), .str w, .str a]
def okN (n : Int) : Bool := decide (-1000000000000000000 ≤ n ∧ n ≤ 1000000000000000000)
def argsS (as : List Str) : Bool := decide (as.length ≤ 4) && as.all isWordS
def leavesS (ws : List Str) : Bool := areL (tS ws)
def Row.ok : Row → Bool
  | .set x n => isWordS x && okN n
  | .same x a => isWordS x && isWordS a
  | .sum x a b => isWordS x && isWordS a && isWordS b
  | .less x a b => isWordS x && isWordS a && isWordS b
  | .hold x n as => isWordS x && isWordS n && argsS as
  | .call x f as vs => isWordS x && isWordS f && argsS as && leavesS vs
  | .last f as vs => isWordS f && argsS as && leavesS vs
  | .give a => isWordS a
  | .keep c a => isWordS c && isWordS a
  | .kept x c => isWordS x && isWordS c
  | .skip a k => isWordS a && decide (0 < k)
  | .over k => decide (0 < k)
  | .on => true
  | .count => true
  | .ask w k => isWordS w && decide (0 < k)
  | .deed w a => isWordS w && isWordS a
  | .done w a => isWordS w && isWordS a
def Row.goes : Row → Int
  | .skip _ k => k
  | .over k => k
  | .ask _ k => k
  | _ => 0
def Row.leaves : Row → List Str
  | .call _ _ _ vs => vs
  | .last _ _ vs => vs
  | .ask w _ => [w]
  | .deed w _ => [w]
  | .done w _ => [w]
  | _ => []
theorem args_typed {u : U} (h : argsU u = true) : ∃ as, u = tS as ∧ argsS as = true := by
  cases u with
  | tup us =>
    have h : (decide (us.length ≤ 4) && us.all wordU) = true := h
    rw [Bool.and_eq_true] at h
    obtain ⟨ws, rfl, hw⟩ := words_of h.2
    refine ⟨ws, rfl, ?_⟩
    unfold argsS
    rw [Bool.and_eq_true, List.all_eq_true]
    exact ⟨by simpa using h.1, hw⟩
  | _ => cases h
theorem leaves_typed {u : U} (h : areL u = true) : ∃ ws, u = tS ws ∧ leavesS ws = true := by
  cases u with
  | tup us =>
    have h' : (decide (us.length ≤ 8) && (List.range us.length).all (leafAt us)) = true := h
    rw [Bool.and_eq_true, List.all_eq_true] at h'
    have : us.all wordU = true := by
      rw [List.all_eq_true]
      intro u hu
      obtain ⟨i, hi, rfl⟩ := List.getElem_of_mem hu
      have := h'.2 i (List.mem_range.mpr hi)
      unfold leafAt at this
      rw [getD_of (List.getElem?_eq_getElem hi), Bool.and_eq_true] at this
      exact this.1
    obtain ⟨ws, rfl, hw⟩ := words_of this
    exact ⟨ws, rfl, h⟩
  | _ => cases h
theorem numb_typed {u : U} (h : numbU u = true) : ∃ n, u = .int n ∧ okN n = true := by
  cases u with
  | int n => exact ⟨n, rfl, h⟩
  | _ => cases h
theorem over_typed {u : U} (h : overU u = true) : ∃ n, u = .int n ∧ decide (0 < n) = true := by
  cases u with
  | int n => exact ⟨n, rfl, h⟩
  | _ => cases h
theorem look_mem {w : Str} {ss : List Str} (h : lookS w = some ss) : (w, ss) ∈ tabS := by
  unfold lookS at h
  rw [Option.map_eq_some_iff] at h
  obtain ⟨p, h1, rfl⟩ := h
  have h2 := List.find?_some h1
  have h3 : p.1 = w := by simpa using h2
  rw [← h3]
  exact List.mem_of_find?_eq_some h1
theorem row_typed {u : U} (h : rowU u = true) : ∃ r : Row, u = r.u ∧ r.ok = true := by
  cases u with
  | tup us =>
    cases us with
    | nil => cases h
    | cons x ps =>
      cases x with
      | str w =>
        have h : (match lookS w with
          | some ss => decide (ps.length = ss.length) && (List.zipWith partU ss ps).all id
          | none => false) = true := h
        cases hl : lookS w with
        | none => rw [hl] at h; cases h
        | some ss =>
          rw [hl] at h
          simp only [Bool.and_eq_true, decide_eq_true_eq] at h
          obtain ⟨hlen, hp⟩ := h
          have hm := look_mem hl
          simp only [tabS, List.mem_cons, Prod.mk.injEq, List.not_mem_nil, or_false] at hm
          rcases hm with ⟨rfl, rfl⟩ | ⟨rfl, rfl⟩ | ⟨rfl, rfl⟩ | ⟨rfl, rfl⟩ | ⟨rfl, rfl⟩ | ⟨rfl, rfl⟩ | ⟨rfl, rfl⟩ | ⟨rfl, rfl⟩ | ⟨rfl, rfl⟩ | ⟨rfl, rfl⟩ | ⟨rfl, rfl⟩ | ⟨rfl, rfl⟩ | ⟨rfl, rfl⟩ | ⟨rfl, rfl⟩ | ⟨rfl, rfl⟩ | ⟨rfl, rfl⟩ | ⟨rfl, rfl⟩
          · match ps, hlen with
            | [a, b], _ =>
              simp [partU] at hp
              obtain ⟨x, rfl, hx⟩ := wordU_str hp.1; obtain ⟨n, rfl, hn⟩ := numb_typed hp.2
              exact ⟨.set x n, rfl, by simp [Row.ok, hx, hn]⟩
          · match ps, hlen with
            | [a, b], _ =>
              simp [partU] at hp
              obtain ⟨x, rfl, hx⟩ := wordU_str hp.1; obtain ⟨n, rfl, hn⟩ := wordU_str hp.2
              exact ⟨.same x n, rfl, by simp [Row.ok, hx, hn]⟩
          · match ps, hlen with
            | [a, b, c], _ =>
              simp [partU] at hp
              obtain ⟨x, rfl, hx⟩ := wordU_str hp.1; obtain ⟨n, rfl, hn⟩ := wordU_str hp.2.1; obtain ⟨m, rfl, hm⟩ := wordU_str hp.2.2
              exact ⟨.sum x n m, rfl, by simp [Row.ok, hx, hn, hm]⟩
          · match ps, hlen with
            | [a, b, c], _ =>
              simp [partU] at hp
              obtain ⟨x, rfl, hx⟩ := wordU_str hp.1; obtain ⟨n, rfl, hn⟩ := wordU_str hp.2.1; obtain ⟨m, rfl, hm⟩ := wordU_str hp.2.2
              exact ⟨.less x n m, rfl, by simp [Row.ok, hx, hn, hm]⟩
          · match ps, hlen with
            | [a, b, c], _ =>
              simp [partU] at hp
              obtain ⟨x, rfl, hx⟩ := wordU_str hp.1; obtain ⟨n, rfl, hn⟩ := wordU_str hp.2.1; obtain ⟨m, rfl, hm⟩ := args_typed hp.2.2
              exact ⟨.hold x n m, rfl, by simp [Row.ok, hx, hn, hm]⟩
          · match ps, hlen with
            | [a, b, c, d], _ =>
              simp [partU] at hp
              obtain ⟨x, rfl, hx⟩ := wordU_str hp.1; obtain ⟨n, rfl, hn⟩ := wordU_str hp.2.1; obtain ⟨m, rfl, hm⟩ := args_typed hp.2.2.1; obtain ⟨v, rfl, hv⟩ := leaves_typed hp.2.2.2
              exact ⟨.call x n m v, rfl, by simp [Row.ok, hx, hn, hm, hv]⟩
          · match ps, hlen with
            | [b, c, d], _ =>
              simp [partU] at hp
              obtain ⟨n, rfl, hn⟩ := wordU_str hp.1; obtain ⟨m, rfl, hm⟩ := args_typed hp.2.1; obtain ⟨v, rfl, hv⟩ := leaves_typed hp.2.2
              exact ⟨.last n m v, rfl, by simp [Row.ok, hn, hm, hv]⟩
          · match ps, hlen with
            | [a], _ =>
              simp [partU] at hp
              obtain ⟨x, rfl, hx⟩ := wordU_str hp
              exact ⟨.give x, rfl, by simp [Row.ok, hx]⟩
          · match ps, hlen with
            | [a, b], _ =>
              simp [partU] at hp
              obtain ⟨x, rfl, hx⟩ := wordU_str hp.1; obtain ⟨n, rfl, hn⟩ := wordU_str hp.2
              exact ⟨.keep x n, rfl, by simp [Row.ok, hx, hn]⟩
          · match ps, hlen with
            | [a, b], _ =>
              simp [partU] at hp
              obtain ⟨x, rfl, hx⟩ := wordU_str hp.1; obtain ⟨n, rfl, hn⟩ := wordU_str hp.2
              exact ⟨.kept x n, rfl, by simp [Row.ok, hx, hn]⟩
          · match ps, hlen with
            | [a, b], _ =>
              simp [partU] at hp
              obtain ⟨x, rfl, hx⟩ := wordU_str hp.1; obtain ⟨n, rfl, hn⟩ := over_typed hp.2
              exact ⟨.skip x n, rfl, by simp only [Row.ok, hx, hn, Bool.and_self]⟩
          · match ps, hlen with
            | [b], _ =>
              simp [partU] at hp
              obtain ⟨n, rfl, hn⟩ := over_typed hp
              exact ⟨.over n, rfl, by simp only [Row.ok, hn]⟩
          · match ps, hlen with
            | [], _ => exact ⟨.on, rfl, rfl⟩
          · match ps, hlen with
            | [], _ => exact ⟨.count, rfl, rfl⟩
          · match ps, hlen with
            | [a, b], _ =>
              simp [partU] at hp
              obtain ⟨x, rfl, hx⟩ := wordU_str hp.1; obtain ⟨n, rfl, hn⟩ := over_typed hp.2
              exact ⟨.ask x n, rfl, by simp only [Row.ok, hx, hn, Bool.and_self]⟩
          · match ps, hlen with
            | [a, b], _ =>
              simp [partU] at hp
              obtain ⟨x, rfl, hx⟩ := wordU_str hp.1; obtain ⟨n, rfl, hn⟩ := wordU_str hp.2
              exact ⟨.deed x n, rfl, by simp [Row.ok, hx, hn]⟩
          · match ps, hlen with
            | [a, b], _ =>
              simp [partU] at hp
              obtain ⟨x, rfl, hx⟩ := wordU_str hp.1; obtain ⟨n, rfl, hn⟩ := wordU_str hp.2
              exact ⟨.done x n, rfl, by simp [Row.ok, hx, hn]⟩
      | _ => cases h
  | _ => cases h
theorem argsU_txt (as : List Str) : argsU (tS as) = argsS as := by
  unfold argsU argsS
  simp only [List.length_map]
  congr 1
  rw [List.all_map]
  rfl
theorem row_back (r : Row) : rowU r.u = r.ok := by
  have lk : ∀ p ∈ tabS, lookS p.1 = some p.2 := by decide +kernel
  have a1 : ∀ as, argsU (.tup (as.map U.str)) = argsS as := argsU_txt
  have a2 : ∀ as, areL (.tup (as.map U.str)) = leavesS as := fun _ => rfl
  cases r with
  | set x n => simp [Row.u, rowU, lk (Str.ofString "set", [wWord, wNumber]) (by simp [tabS]), partU, wordU, Row.ok, numbU, okN]
  | same x a => simp [Row.u, rowU, lk (Str.ofString "same", [wWord, wWord]) (by simp [tabS]), partU, wordU, Row.ok]
  | sum x a b => simp [Row.u, rowU, lk (Str.ofString "sum", [wWord, wWord, wWord]) (by simp [tabS]), partU, wordU, Row.ok, Bool.and_assoc]
  | less x a b => simp [Row.u, rowU, lk (Str.ofString "less", [wWord, wWord, wWord]) (by simp [tabS]), partU, wordU, Row.ok, Bool.and_assoc]
  | hold x n as => simp [Row.u, rowU, lk (Str.ofString "hold", [wWord, wWord, wArgs]) (by simp [tabS]), partU, wordU, Row.ok, a1, Bool.and_assoc]
  | call x f as vs => simp [Row.u, rowU, lk (Str.ofString "call", [wWord, wWord, wArgs, wLeaves]) (by simp [tabS]), partU, wordU, Row.ok, a1, a2, Bool.and_assoc]
  | last f as vs => simp [Row.u, rowU, lk (Str.ofString "last", [wWord, wArgs, wLeaves]) (by simp [tabS]), partU, wordU, Row.ok, a1, a2, Bool.and_assoc]
  | give a => simp [Row.u, rowU, lk (Str.ofString "give", [wWord]) (by simp [tabS]), partU, wordU, Row.ok]
  | keep c a => simp [Row.u, rowU, lk (Str.ofString "keep", [wWord, wWord]) (by simp [tabS]), partU, wordU, Row.ok]
  | kept x c => simp [Row.u, rowU, lk (Str.ofString "kept", [wWord, wWord]) (by simp [tabS]), partU, wordU, Row.ok]
  | skip a k => simp [Row.u, rowU, lk (Str.ofString "skip", [wWord, Str.ofString "over"]) (by simp [tabS]), partU, wordU, Row.ok, overU]
  | over k => simp [Row.u, rowU, lk (Str.ofString "over", [Str.ofString "over"]) (by simp [tabS]), partU, wordU, Row.ok, overU]
  | on => simp [Row.u, rowU, lk (Str.ofString "on", []) (by simp [tabS]), Row.ok]
  | count => simp [Row.u, rowU, lk (Str.ofString "count", []) (by simp [tabS]), Row.ok]
  | ask w k => simp [Row.u, rowU, lk (Str.ofString "ask", [wWord, Str.ofString "over"]) (by simp [tabS]), partU, wordU, Row.ok, overU]
  | deed w a => simp [Row.u, rowU, lk (Str.ofString "deed", [wWord, wWord]) (by simp [tabS]), partU, wordU, Row.ok]
  | done w a => simp [Row.u, rowU, lk (Str.ofString "done", [wWord, wWord]) (by simp [tabS]), partU, wordU, Row.ok]
end C
namespace C
open PySem L2 D
def b_goes_over : DS := (sSeq (sIf (tst (bin in2 (bin ix2 (var 0) (cst (.int 0))) (appN szT (acons (cst (.str (Str.ofString "skip"))) (acons (cst (.str (Str.ofString "over"))) (acons (cst (.str (Str.ofString "ask"))) anil)))))) (sSeq (sRet (bin ix2 (var 0) (neg1D (cst (.int 1))))) sNil) sNil) (sSeq (sRet (cst (.int 0))) sNil))
def f_goes_over : List U → Store → Rs U := runB 1 1 b_goes_over
def t1_bad_row : DS := (sSeq (sIf (orT (notT (tst (appU f_is_row (acons (var 2) anil)))) (tst (bin gt2 (bin add2 (bin add2 (var 1) (cst (.int 1))) (appU f_goes_over (acons (var 2) anil))) (appN lenN (acons (var 0) anil))))) (sSeq (sRet (var 1)) sNil) sNil) sNil)
def b_bad_row : DS := (sSeq (sFor (itA enumerateN (acons (var 0) anil)) (tgT [1, 2]) t1_bad_row) (sSeq (sRet (cst .non)) sNil))
def f_bad_row : List U → Store → Rs U := runB 3 1 b_bad_row
def b_is_head : DS := (sSeq (sIf (orT (notT (tst (appN isiN (acons (var 0) (acons (cst (.ty "tuple")) anil))))) (tst (bin ne2 (appN lenN (acons (var 0) anil)) (cst (.int 4))))) (sSeq (sRet (cst (.bl false))) sNil) sNil) (sSeq (sUnp (tgA [1, 2, 3, 4]) (var 0)) (sSeq (sIf (orT (notT (tst (appU f_is_word (acons (var 1) anil)))) (orT (notT (tst (appU f_are_leaves (acons (var 2) anil)))) (orT (notT (tst (appU f_are_args (acons (var 3) anil)))) (tst (bin ne2 (ap1 lenSet1 (var 3)) (appN lenN (acons (var 3) anil))))))) (sSeq (sRet (cst (.bl false))) sNil) sNil) (sSeq (sRet (andV (appN isiN (acons (var 4) (acons (cst (.ty "tuple")) anil))) (chain le2 le2 (cst (.int 1)) (appN lenN (acons (var 4) anil)) (cst (.int 60))))) sNil))))
def f_is_head : List U → Store → Rs U := runB 5 1 b_is_head
def b_leaves_in : DS := (sSeq (sIf (tst (bin in2 (bin ix2 (var 0) (cst (.int 0))) (appN szT (acons (cst (.str (Str.ofString "call"))) (acons (cst (.str (Str.ofString "last"))) anil))))) (sSeq (sRet (bin ix2 (var 0) (neg1D (cst (.int 1))))) sNil) sNil) (sSeq (sIf (tst (bin in2 (bin ix2 (var 0) (cst (.int 0))) (appN szT (acons (cst (.str (Str.ofString "ask"))) (acons (cst (.str (Str.ofString "deed"))) (acons (cst (.str (Str.ofString "done"))) anil)))))) (sSeq (sRet (appN szT (acons (bin ix2 (var 0) (cst (.int 1))) anil))) sNil) sNil) (sSeq (sRet (appN szT anil)) sNil)))
def f_leaves_in : List U → Store → Rs U := runB 1 1 b_leaves_in
def t1_words_of : DS := (sSeq (sExt 1 (appU f_leaves_in (acons (var 2) anil))) sNil)
def b_words_of : DS := (sSeq (sOwn 1 (itA lstL (acons (bin ix2 (var 0) (cst (.int 1))) anil))) (sSeq (sFor (itemsD (bin ix2 (var 0) (cst (.int 3)))) (tgN 2) t1_words_of) (sSeq (frzS 1 (sRet (var 1))) sNil)))
def f_words_of : List U → Store → Rs U := runB 3 1 b_words_of
def t1_roster_in : DS := (sSeq (sExt 1 (appU f_words_of (acons (var 2) anil))) sNil)
def b_roster_in : DS := (sSeq (sOwn 1 (szDL anil)) (sSeq (sFor (itemsD (var 0)) (tgN 2) t1_roster_in) (sSeq (frzS 1 (sRet (appN tupN (acons (newL (itE sortSet1 (var 1))) anil)))) sNil)))
def f_roster_in : List U → Store → Rs U := runB 3 1 b_roster_in
def t1_look_at_book (R : DA → DS) : DS := (sSeq (sIf (orT (notT (tst (appU f_is_head (acons (var 2) anil)))) (tst (bin in2 (bin ix2 (var 2) (cst (.int 0))) (newL (compD (itemsD (slD (var 0) noO (soO (var 1)))) [4] (tgN 4) yesT (bin ix2 (var 4) (cst (.int 0)))))))) (sSeq (R (acons (var 1) (acons (cst .non) anil))) sNil) sNil) (sSeq (sSet 3 (appU f_bad_row (acons (bin ix2 (var 2) (cst (.int 3))) anil))) (sSeq (sIf (tst (bin isnot2 (var 3) (cst .non))) (sSeq (R (acons (var 1) (acons (var 3) anil))) sNil) sNil) sNil)))
def b_look_at_book (R : DA → DS) : DS := (sSeq (sIf (orT (notT (tst (appN isiN (acons (var 0) (acons (cst (.ty "list")) anil))))) (notT (tst (chain le2 le2 (cst (.int 1)) (appN lenN (acons (var 0) anil)) (cst (.int 12)))))) (sSeq (R (acons (cst .non) (acons (cst .non) anil))) sNil) sNil) (sSeq (sFor (itA enumerateN (acons (var 0) anil)) (tgT [1, 2]) (t1_look_at_book R)) (sSeq (sIf (tst (bin gt2 (appN lenN (acons (appU f_roster_in (acons (var 0) anil)) anil)) (cst (.int 8)))) (sSeq (R (acons (cst .non) (acons (cst .non) anil))) sNil) sNil) sNil)))
def f_look_at_book (R : DA → DS) : List U → Store → Rs U := runB 5 1 (b_look_at_book R)
theorem in_txtL (x : Str) (ws : List Str) : in2 (.str x) (lS ws) = some (.bl (decide (x ∈ ws))) := by
  show (if flatU (.str x) && (ws.map U.str).all flatU then some (U.bl ((ws.map U.str).any fun y => eqU y (.str x))) else _) = _
  rw [flat_txt, any_txt]; rfl
theorem in3 (x a b c : Str) : in2 (.str x) (.tup [.str a, .str b, .str c]) = some (.bl (decide (x = a ∨ x = b ∨ x = c))) := by
  rw [show U.tup [.str a, .str b, .str c] = tS [a, b, c] from rfl, in_txt]; simp
theorem in2' (x a b : Str) : in2 (.str x) (.tup [.str a, .str b]) = some (.bl (decide (x = a ∨ x = b))) := by
  rw [show U.tup [.str a, .str b] = tS [a, b] from rfl, in_txt]; simp
theorem goes_ev (r : Row) (st : Store) : f_goes_over [r.u] st = .ok (.int r.goes) st := by
  unfold f_goes_over b_goes_over
  cases r <;> simp [Row.u, Row.goes, in3]
theorem leaves_in_ev (r : Row) (st : Store) : f_leaves_in [r.u] st = .ok (tS r.leaves) st := by
  unfold f_leaves_in b_leaves_in
  cases r <;> simp [Row.u, Row.leaves, in3, in2']
/-- what a row goes over; of what is none, nothing -/
noncomputable def goesU (u : U) : Int := open Classical in if h : ∃ r : Row, u = r.u then (Classical.choose h).goes else 0
theorem Row.u_inj {r r' : Row} (h : r.u = r'.u) : r.goes = r'.goes := by
  have h1 := goes_ev r []
  have h2 := goes_ev r' []
  rw [h, h2] at h1
  simpa using h1.symm
theorem goesU_row (r : Row) : goesU r.u = r.goes := by
  unfold goesU
  have h : ∃ r' : Row, r.u = r'.u := ⟨r, rfl⟩
  rw [dif_pos h]
  exact (Row.u_inj (Classical.choose_spec h)).symm
theorem goesU_ev {u : U} (h : rowU u = true) (st : Store) : f_goes_over [u] st = .ok (.int (goesU u)) st := by
  obtain ⟨r, rfl, _⟩ := row_typed h
  rw [goesU_row, goes_ev]
/-- whether a row can stand at a place -/
noncomputable def stands (us : List U) (k : Nat) : Bool := rowU (us.getD k .non) && decide ((k : Int) + 1 + goesU (us.getD k .non) ≤ us.length)
noncomputable def badAt (us : List U) : Option Nat := (List.range us.length).find? fun k => !stands us k
def optU : Option Nat → U
  | some n => .int n
  | none => .non
theorem for_num {b : DS} {st : Store} {us : List U} (I : D.Env → Prop) (i j : Nat) (c : Nat → Bool) (val : Nat → U) (env : D.Env) (h0 : I env)
    (h : ∀ k u, us[k]? = some u → ∀ env, I env → if c k = true then b ((env.set i (.val (.int (k : Int)))).set j (.val u)) st = .rt (val k) st else ∃ env', b ((env.set i (.val (.int (k : Int)))).set j (.val u)) st = .nx env' st ∧ I env') :
    (∃ k, (List.range us.length).find? c = some k ∧ forL (tgT [i, j]) b (numU us) env st = .rt (val k) st) ∨ ((List.range us.length).find? c = none ∧ ∃ env', forL (tgT [i, j]) b (numU us) env st = .nx env' st ∧ I env') := by
  have e : numU us = (List.range us.length).map fun k => U.tup [.int (k : Nat), us.getD k .non] := by
    apply List.ext_getElem?
    intro k
    unfold numU
    rw [List.getElem?_mapIdx, List.getElem?_map]
    by_cases hk : k < us.length
    · rw [List.getElem?_range hk, List.getElem?_eq_getElem hk]
      simp [List.getD_eq_getElem?_getD, List.getElem?_eq_getElem hk]
    · rw [List.getElem?_eq_none (by omega), List.getElem?_eq_none (by simp; omega)]
      rfl
  rw [e]
  refine for_first I c val (List.range us.length) env h0 fun k hk env hI => ⟨_, tgT2_ap _ _ _ _, ?_⟩
  have hk := List.mem_range.mp hk
  have hg : us[k]? = some (us.getD k .non) := by rw [List.getD_eq_getElem?_getD, List.getElem?_eq_getElem hk]; rfl
  exact h k _ hg env hI
theorem bad_row_gen (us : List U) (T : U) (hT : T = .tup us ∨ T = .lst us) (h : us.all tame2 = true) (st : Store) : f_bad_row [T] st = .ok (optU (badAt us)) st := by
  have en : enumerateN [T] = some (numU us) := by rcases hT with rfl | rfl <;> rfl
  have ln : lenN [T] = some (.int us.length) := by rcases hT with rfl | rfl <;> rfl
  rw [List.all_eq_true] at h
  have loop := for_num (b := t1_bad_row) (st := st) (us := us) (fun env => ∃ s1 s2, env = [.val T, s1, s2]) 1 2 (fun k => !stands us k) (fun k => .int (k : Nat)) [.val T, .un, .un] ⟨_, _, rfl⟩ (fun k u hk env hI => by
    obtain ⟨s1, s2, rfl⟩ := hI
    have ed := getD_of hk
    have e1 : f_is_row [u] st = .ok (.bl (rowU u)) st := is_row_ev (h u (List.mem_of_getElem? hk)) st
    unfold t1_bad_row stands
    rw [ed]
    cases hr : rowU u with
    | false => simp [e1, hr]
    | true =>
      have e2 := goesU_ev hr st
      by_cases q : (k : Int) + 1 + goesU u ≤ us.length
      · have q' : ¬ (us.length : Int) < (k : Int) + 1 + goesU u := by omega
        simp [e1, hr, e2, ln, q, q']
      · have q' : (us.length : Int) < (k : Int) + 1 + goesU u := by omega
        simp [e1, hr, e2, ln, q, q'])
  unfold f_bad_row b_bad_row badAt
  rcases loop with ⟨k, h1, h2⟩ | ⟨h1, env', h2, s1, s2, rfl⟩
  · simp [en, h2, h1, optU]
  · simp [en, h2, h1, optU]
def tame3 : U → Bool
  | .tup us => us.all tame2
  | u => tame u
def tame4 : U → Bool
  | .tup us => us.all tame3
  | u => tame u
theorem tame2_1 {u : U} (h : tame2 u = true) : tame1 u = true := by
  cases u with
  | tup us =>
    have h : us.all tame1 = true := h
    show us.all tame = true
    rw [List.all_eq_true] at h ⊢
    exact fun u hu => tame1_tame (h u hu)
  | _ => exact h
theorem tame3_2 {u : U} (h : tame3 u = true) : tame2 u = true := by
  cases u with
  | tup us =>
    have h : us.all tame2 = true := h
    show us.all tame1 = true
    rw [List.all_eq_true] at h ⊢
    exact fun u hu => tame2_1 (h u hu)
  | _ => exact h
theorem tame4_3 {u : U} (h : tame4 u = true) : tame3 u = true := by
  cases u with
  | tup us =>
    have h : us.all tame3 = true := h
    show us.all tame2 = true
    rw [List.all_eq_true] at h ⊢
    exact fun u hu => tame3_2 (h u hu)
  | _ => exact h
def nodupU : U → Bool
  | .tup us => match strsU us with
    | some ws => decide ((dedS ws).length = ws.length)
    | none => false
  | _ => false
def rowsU : U → Bool
  | .tup us => decide (1 ≤ us.length ∧ us.length ≤ 60)
  | _ => false
def headU : U → Bool
  | .tup [n, o, p, r] => wordU n && areL o && argsU p && nodupU p && rowsU r
  | _ => false
theorem is_head_ev {u : U} (h : tame3 u = true) (st : Store) : f_is_head [u] st = .ok (.bl (headU u)) st := by
  unfold f_is_head b_is_head
  cases u with
  | tup us =>
    have h : us.all tame2 = true := h
    rw [List.all_eq_true] at h
    by_cases hl : us.length = 4
    · match us, hl with
      | [n, o, p, r], _ =>
        have hn := tame2_1 (h n (by simp))
        have ho := tame2_1 (h o (by simp))
        have hp := tame2_1 (h p (by simp))
        have hr := tame2_1 (h r (by simp))
        obtain ⟨t, ht⟩ := tame1_ty hr
        have e1 := is_word_any (tame1_tame hn) st
        have e2 := are_leaves_ev ho st
        have e3 := are_args_ev hp st
        have tg4 : tgA [1, 2, 3, 4] (.tup [n, o, p, r]) = some [(1, n), (2, o), (3, p), (4, r)] := rfl
        have hh : headU (.tup [n, o, p, r]) = (wordU n && areL o && argsU p && nodupU p && rowsU r) := rfl
        rw [hh]
        cases q1 : wordU n with
        | false => simp [sUnp, tg4, e1, q1]
        | true =>
        cases q2 : areL o with
        | false => simp [sUnp, tg4, e1, q1, e2, q2]
        | true =>
        cases q3 : argsU p with
        | false => simp [sUnp, tg4, e1, q1, e2, q2, e3, q3]
        | true =>
        obtain ⟨as, rfl, has⟩ := args_typed q3
        have la : as.length ≤ 4 := by unfold argsS at has; rw [Bool.and_eq_true] at has; simpa using has.1
        have ls : lenSet1 (tS as) = some (.int (dedS as).length) := by
          unfold lenSet1
          rw [txts_txt]
          show (if _ then _ else _) = _
          rw [if_pos (by omega)]
        have nd : nodupU (tS as) = decide ((dedS as).length = as.length) := by
          show (match strsU (as.map U.str) with | some ws => _ | none => _) = _
          rw [strs_map]
        have eqi : (((dedS as).length : Int) = as.length) ↔ (dedS as).length = as.length := by omega
        by_cases q4 : (dedS as).length = as.length
        · have nd' : nodupU (tS as) = true := by rw [nd]; simpa using q4
          simp only [tS] at ls nd' e3 tg4 q3
          cases r with
          | tup rs =>
            have b1 : ((1 : Int) ≤ rs.length) ↔ 1 ≤ rs.length := by omega
            have b2 : ((rs.length : Int) ≤ 60) ↔ rs.length ≤ 60 := by omega
            by_cases c1 : 1 ≤ rs.length
            · simp [sUnp, tg4, e1, q1, e2, q2, e3, q3, ls, q4, nd', rowsU, b1, b2, c1]
            · simp [sUnp, tg4, e1, q1, e2, q2, e3, q3, ls, q4, nd', rowsU, b1, b2, c1]
          | ref n => cases ht
          | ty n => cases ht
          | _ => simp [sUnp, tg4, e1, q1, e2, q2, e3, q3, ls, q4, nd', rowsU]
        · have nd' : nodupU (tS as) = false := by rw [nd]; simpa using q4
          simp only [tS] at ls nd' e3 tg4 q3
          simp [sUnp, tg4, e1, q1, e2, q2, e3, q3, ls, eqi, q4, nd']
    · have hl' : ¬ ((us.length : Int) = 4) := by omega
      have hh : headU (.tup us) = false := by
        unfold headU
        split
        · rename_i e; cases e; exact absurd rfl hl
        · rfl
      simp [hl', hh]
  | ref n => cases h
  | ty n => cases h
  | _ => simp [headU]
structure Piece where
  name : Str
  own : List Str
  params : List Str
  rows : List Row
def Piece.u (p : Piece) : U := .tup [.str p.name, tS p.own, tS p.params, .tup (p.rows.map Row.u)]
def bookU (b : List Piece) : U := .lst (b.map Piece.u)
end C
namespace C
open PySem L2 D
def Stop : Out → Prop
  | .rt _ _ => True
  | .ex _ _ _ _ => True
  | .bad => True
  | _ => False
theorem Stop.seq {o : Out} (h : Stop o) (k : D.Env → Store → Out) : o.seq k = o := by
  cases o <;> first | rfl | exact h.elim
def nameU : U → Str
  | .tup (.str n :: _) => n
  | _ => Str.empty
def rowsL : U → List U
  | .tup [_, _, _, .tup rs] => rs
  | _ => []
def fresh (us : List U) (k : Nat) : Bool := !decide (nameU (us.getD k .non) ∈ (us.take k).map nameU)
/-- how a refusal ends -/
structure Refuses (R : DA → DS) (F : List U → Rs U) (st : Store) : Prop where
  run : ∀ (a : DA) (env : D.Env) (us : List U), a env st = .ok us st → ∃ o, R a env st = o ∧ Stop o ∧ fin o = F us
/-- a book, typed -/
noncomputable def Piece.ok (p : Piece) : Bool := headU p.u && (badAt (p.rows.map Row.u)).isNone
theorem look_none {R : DA → DS} {F : List U → Rs U} {st : Store} (hR : Refuses R F st) {u : U} {t : String} (ht : tyU u = some t) (hs : t ≠ "list") : f_look_at_book R [u] st = F [.non, .non] := by
  obtain ⟨o, r1, r2, r3⟩ := hR.run (acons (cst .non) (acons (cst .non) anil)) [.val u, .un, .un, .un, .un] [.non, .non] (by simp)
  have e1 : isiN [u, .ty "list"] = some (.bl false) := by rw [isi_ev ht (by decide)]; simp [isB, hs]
  unfold f_look_at_book b_look_at_book
  simp [e1, r1, r2.seq, r3]
theorem word_tame {x : Str} (h : isWordS x = true) : tame (.str x) = true := by
  unfold isWordS at h
  simp only [Bool.and_eq_true, decide_eq_true_eq, List.all_eq_true] at h
  show (decide (x.length ≤ 16777216) && valid x) = true
  rw [Bool.and_eq_true, decide_eq_true_eq]
  refine ⟨by omega, ?_⟩
  unfold valid
  rw [Array.all_eq_true]
  intro i hi
  have hm : x.cps[i] ∈ letters := h.2 _ (by simp)
  have hl : ∀ c ∈ letters, c < 0x110000 := by decide +kernel
  simpa using hl _ hm
theorem words_tame {ws : List Str} (h : ∀ w ∈ ws, isWordS w = true) : (ws.map U.str).all tame = true := by
  rw [List.all_eq_true]
  intro u hu
  obtain ⟨w, hw, rfl⟩ := List.mem_map.mp hu
  exact word_tame (h w hw)
theorem args_words {as : List Str} (h : argsS as = true) : ∀ w ∈ as, isWordS w = true := by
  unfold argsS at h
  rw [Bool.and_eq_true, List.all_eq_true] at h
  exact h.2
theorem leaves_words {ws : List Str} (h : leavesS ws = true) : ∀ w ∈ ws, isWordS w = true := by
  obtain ⟨ws', e, _⟩ := leaves_typed h
  intro w hw
  unfold leavesS areL at h
  simp only [Bool.and_eq_true, List.all_eq_true, List.length_map] at h
  obtain ⟨i, hi, rfl⟩ := List.getElem_of_mem hw
  have := h.2 i (List.mem_range.mpr hi)
  unfold leafAt at this
  rw [getD_str ws i hi, Bool.and_eq_true] at this
  exact this.1
theorem leaves_len {ws : List Str} (h : leavesS ws = true) : ws.length ≤ 8 := by
  unfold leavesS areL at h
  simp only [Bool.and_eq_true, List.length_map, decide_eq_true_eq] at h
  exact h.1
theorem args_len {ws : List Str} (h : argsS ws = true) : ws.length ≤ 4 := by
  unfold argsS at h
  simp only [Bool.and_eq_true, decide_eq_true_eq] at h
  exact h.1
theorem row_tame {r : Row} (h : r.ok = true) : tame2 r.u = true := by
  have w : ∀ x : String, isWordS (Str.ofString x) = true → tame1 (.str (Str.ofString x)) = true := fun x h => word_tame h
  have w1 : ∀ x : Str, isWordS x = true → tame1 (.str x) = true := fun x h => word_tame h
  have w2 : ∀ as : List Str, (∀ x ∈ as, isWordS x = true) → tame1 (.tup (as.map U.str)) = true := fun as h => words_tame h
  have w3 : ∀ n : Int, tame1 (.int n) = true := fun _ => rfl
  have k1 : isWordS (Str.ofString "set") = true := by decide +kernel
  have k2 : isWordS (Str.ofString "same") = true := by decide +kernel
  have k3 : isWordS (Str.ofString "sum") = true := by decide +kernel
  have k4 : isWordS (Str.ofString "less") = true := by decide +kernel
  have k5 : isWordS (Str.ofString "hold") = true := by decide +kernel
  have k6 : isWordS (Str.ofString "call") = true := by decide +kernel
  have k7 : isWordS (Str.ofString "last") = true := by decide +kernel
  have k8 : isWordS (Str.ofString "give") = true := by decide +kernel
  have k9 : isWordS (Str.ofString "keep") = true := by decide +kernel
  have k10 : isWordS (Str.ofString "kept") = true := by decide +kernel
  have k11 : isWordS (Str.ofString "skip") = true := by decide +kernel
  have k12 : isWordS (Str.ofString "over") = true := by decide +kernel
  have k13 : isWordS (Str.ofString "on") = true := by decide +kernel
  have k14 : isWordS (Str.ofString "count") = true := by decide +kernel
  have k15 : isWordS (Str.ofString "ask") = true := by decide +kernel
  have k16 : isWordS (Str.ofString "deed") = true := by decide +kernel
  have k17 : isWordS (Str.ofString "done") = true := by decide +kernel
  cases r <;> simp only [Row.ok, Bool.and_eq_true] at h <;> simp [Row.u, tame2, w1, w3, *, -List.all_map]
  case hold x n as => exact w2 as (args_words h.2)
  case call x f as vs => exact ⟨w2 as (args_words h.1.2), w2 vs (leaves_words h.2)⟩
  case last f as vs => exact ⟨w2 as (args_words h.1.2), w2 vs (leaves_words h.2)⟩
theorem stands_row {rows : List Row} (h : badAt (rows.map Row.u) = none) : ∀ r ∈ rows, r.ok = true := by
  intro r hr
  obtain ⟨i, hi, rfl⟩ := List.getElem_of_mem hr
  unfold badAt at h
  rw [List.find?_eq_none] at h
  have hi' : i < (rows.map Row.u).length := by simpa using hi
  have := h i (List.mem_range.mpr hi')
  have : stands (rows.map Row.u) i = true := by simpa using this
  unfold stands at this
  rw [getD_of (List.getElem?_eq_getElem hi'), Bool.and_eq_true, List.getElem_map, row_back] at this
  exact this.1
structure POk (p : Piece) : Prop where
  name : isWordS p.name = true
  own : leavesS p.own = true
  params : argsS p.params = true
  nodup : (dedS p.params).length = p.params.length
  len1 : 1 ≤ p.rows.length
  len2 : p.rows.length ≤ 60
  rows : ∀ r ∈ p.rows, r.ok = true
  goes : ∀ k (h : k < p.rows.length), (k : Int) + 1 + (p.rows[k]).goes ≤ p.rows.length
theorem pok_iff (p : Piece) : p.ok = true ↔ POk p := by
  have hh : headU p.u = (isWordS p.name && leavesS p.own && argsU (tS p.params) && nodupU (tS p.params) && rowsU (.tup (p.rows.map Row.u))) := rfl
  have nd : nodupU (tS p.params) = decide ((dedS p.params).length = p.params.length) := by
    show (match strsU (p.params.map U.str) with | some ws => _ | none => _) = _
    rw [strs_map]
  have hr : rowsU (.tup (p.rows.map Row.u)) = decide (1 ≤ p.rows.length ∧ p.rows.length ≤ 60) := by
    unfold rowsU
    simp only [List.length_map]
  unfold Piece.ok
  rw [Bool.and_eq_true, hh, argsU_txt, nd, hr]
  simp only [Bool.and_eq_true, decide_eq_true_eq, Option.isNone_iff_eq_none]
  constructor
  · rintro ⟨⟨⟨⟨⟨h1, h2⟩, h3⟩, h4⟩, h5, h6⟩, h7⟩
    refine ⟨h1, h2, h3, h4, h5, h6, stands_row h7, fun k hk => ?_⟩
    unfold badAt at h7
    rw [List.find?_eq_none] at h7
    have hk' : k < (p.rows.map Row.u).length := by simpa using hk
    have := h7 k (List.mem_range.mpr hk')
    have : stands (p.rows.map Row.u) k = true := by simpa using this
    unfold stands at this
    rw [getD_of (List.getElem?_eq_getElem hk'), Bool.and_eq_true, List.getElem_map, goesU_row] at this
    have := of_decide_eq_true this.2
    simpa using this
  · intro h
    refine ⟨⟨⟨⟨⟨h.name, h.own⟩, h.params⟩, h.nodup⟩, h.len1, h.len2⟩, ?_⟩
    unfold badAt
    rw [List.find?_eq_none]
    intro k hk
    have hk := List.mem_range.mp hk
    have hk' : k < p.rows.length := by simpa using hk
    have e : stands (p.rows.map Row.u) k = true := by
      unfold stands
      rw [getD_of (List.getElem?_eq_getElem hk), Bool.and_eq_true, List.getElem_map, goesU_row, row_back]
      refine ⟨h.rows _ (List.getElem_mem hk'), decide_eq_true ?_⟩
      have := h.goes k hk'
      simpa using this
    simp [e]
theorem piece_tame (p : Piece) (h : p.ok = true) : tame4 p.u = true := by
  have h := (pok_iff p).mp h
  have w1 : tame3 (.str p.name) = true := word_tame h.name
  have two : ∀ ws : List Str, (∀ w ∈ ws, isWordS w = true) → tame3 (.tup (ws.map U.str)) = true := fun ws hw => by
    show (ws.map U.str).all tame2 = true
    rw [List.all_eq_true]
    intro u hu
    obtain ⟨w, hw', rfl⟩ := List.mem_map.mp hu
    exact word_tame (hw w hw')
  have w2 := two p.own (leaves_words h.own)
  have w3 := two p.params (args_words h.params)
  have w4 : tame3 (.tup (p.rows.map Row.u)) = true := by
    show (p.rows.map Row.u).all tame2 = true
    rw [List.all_eq_true]
    intro u hu
    obtain ⟨r, hr, rfl⟩ := List.mem_map.mp hu
    exact row_tame (h.rows r hr)
  show [U.str p.name, tS p.own, tS p.params, U.tup (p.rows.map Row.u)].all tame3 = true
  simp only [List.all_cons, List.all_nil, w1, w2, w3, w4, Bool.and_self]
theorem row_leaves_len {r : Row} (h : r.ok = true) : r.leaves.length ≤ 8 := by
  cases r <;> simp only [Row.ok, Bool.and_eq_true] at h <;> simp [Row.leaves]
  · exact leaves_len h.2
  · exact leaves_len h.2
end C
namespace C
open PySem L2 D
def eqOk : Nat → U → Bool
  | 0, _ => false
  | _ + 1, .non => true
  | _ + 1, .bl _ => true
  | _ + 1, .int _ => true
  | _ + 1, .str _ => true
  | n + 1, .tup us => us.all (eqOk n)
  | n + 1, .lst us => us.all (eqOk n)
  | _ + 1, _ => false
theorem eqZ_refl {f : U → U → Option Bool} : ∀ us : List U, (∀ u ∈ us, f u u = some true) → eqZ f us us = some true
  | [], _ => rfl
  | u :: us, h => by
    unfold eqZ
    rw [h u (List.mem_cons_self ..), eqZ_refl us fun v hv => h v (List.mem_cons_of_mem _ hv)]
    rfl
theorem eqF_refl : ∀ (n : Nat) (u : U), eqOk n u = true → eqF n u u = some true
  | 0, _, h => by cases h
  | n + 1, u, h => by
    cases u with
    | tup us =>
      have h : us.all (eqOk n) = true := h
      rw [List.all_eq_true] at h
      unfold eqF
      rw [eqZ_refl us fun u hu => eqF_refl n u (h u hu)]
      simp
    | lst us =>
      have h : us.all (eqOk n) = true := h
      rw [List.all_eq_true] at h
      unfold eqF
      rw [if_pos rfl, eqZ_refl us fun u hu => eqF_refl n u (h u hu)]
    | non => rfl
    | bl b => unfold eqF eqP; simp
    | int i => unfold eqF eqP; simp
    | str x => unfold eqF eqP; simp
    | _ => cases h
theorem eqOk_mono : ∀ (n m : Nat) (u : U), n ≤ m → eqOk n u = true → eqOk m u = true
  | 0, _, _, _, h => by cases h
  | n + 1, m, u, hm, h => by
    obtain ⟨k, rfl⟩ : ∃ k, m = k + 1 := ⟨m - 1, by omega⟩
    cases u with
    | tup us =>
      have h : us.all (eqOk n) = true := h
      show us.all (eqOk k) = true
      rw [List.all_eq_true] at h ⊢
      exact fun u hu => eqOk_mono n k u (by omega) (h u hu)
    | lst us =>
      have h : us.all (eqOk n) = true := h
      show us.all (eqOk k) = true
      rw [List.all_eq_true] at h ⊢
      exact fun u hu => eqOk_mono n k u (by omega) (h u hu)
    | non => rfl
    | bl b => rfl
    | int i => rfl
    | str x => rfl
    | _ => cases h
theorem eq2_refl {n : Nat} {u : U} (h : eqOk n u = true) (hn : n ≤ 60) : eq2 u u = some (.bl true) := by
  unfold eq2
  rw [eqF_refl 60 u (eqOk_mono n 60 u hn h)]; rfl
theorem ne2_refl {n : Nat} {u : U} (h : eqOk n u = true) (hn : n ≤ 60) : ne2 u u = some (.bl false) := by
  unfold ne2
  rw [eqF_refl 60 u (eqOk_mono n 60 u hn h)]; rfl
end C
namespace C
open PySem L2 D
abbrev wFun : Str := Str.ofString "fun"
def deepU : Nat → U → Int
  | n + 1, .tup [_, _, .tup ps] => 1 + maxI 0 (ps.map (deepU n))
  | _, _ => 0
end C
namespace D
open PySem
def nmL : List Str := [Str.ofString "Frame", Str.ofString "Hand", Str.ofString "Melt", Str.ofString "Walk", Str.ofString "Run", Str.ofString "pieces", Str.ofString "base", Str.ofString "left", Str.ofString "shelf", Str.ofString "told_events", Str.ofString "ended", Str.ofString "frames", Str.ofString "deepest", Str.ofString "papers", Str.ofString "needs_now", Str.ofString "stops_now", Str.ofString "piece", Str.ofString "locals_now", Str.ofString "at", Str.ofString "waits", Str.ofString "vouch", Str.ofString "set_now", Str.ofString "top", Str.ofString "enter", Str.ofString "place", Str.ofString "stop", Str.ofString "go_on", Str.ofString "done", Str.ofString "asked", Str.ofString "ends_with", Str.ofString "use_call", Str.ofString "why_not", Str.ofString "call", Str.ofString "ask", Str.ofString "row_done", Str.ofString "go", Str.ofString "give", Str.ofString "value", Str.ofString "paper_of", Str.ofString "set", Str.ofString "same", Str.ofString "sum", Str.ofString "less", Str.ofString "hold", Str.ofString "last", Str.ofString "keep", Str.ofString "kept", Str.ofString "skip", Str.ofString "over", Str.ofString "on", Str.ofString "count", Str.ofString "deed", Str.ofString "gives", Str.ofString "spent", Str.ofString "stuck", Str.ofString "refused", Str.ofString "number", Str.ofString "nobody", Str.ofString "many", Str.ofString "function", Str.ofString "great", Str.ofString "deep", Str.ofString "held", Str.ofString "lacks", Str.ofString "fun", Str.ofString "me", Str.ofString "other", Str.ofString "x", Str.ofString "f", Str.ofString "yy", Str.ofString "a", Str.ofString "abcdefgh", Str.ofString "c", Str.ofString "kk", Str.ofString "none", Str.ofString "w"]
theorem nmN : nmL.Nodup := by decide +kernel
class Lx (a : String) (i : outParam Nat) : Prop where
  h : nmL[i]? = some (Str.ofString a)
instance : Lx "Frame" 0 := ⟨rfl⟩
instance : Lx "Hand" 1 := ⟨rfl⟩
instance : Lx "Melt" 2 := ⟨rfl⟩
instance : Lx "Walk" 3 := ⟨rfl⟩
instance : Lx "Run" 4 := ⟨rfl⟩
instance : Lx "pieces" 5 := ⟨rfl⟩
instance : Lx "base" 6 := ⟨rfl⟩
instance : Lx "left" 7 := ⟨rfl⟩
instance : Lx "shelf" 8 := ⟨rfl⟩
instance : Lx "told_events" 9 := ⟨rfl⟩
instance : Lx "ended" 10 := ⟨rfl⟩
instance : Lx "frames" 11 := ⟨rfl⟩
instance : Lx "deepest" 12 := ⟨rfl⟩
instance : Lx "papers" 13 := ⟨rfl⟩
instance : Lx "needs_now" 14 := ⟨rfl⟩
instance : Lx "stops_now" 15 := ⟨rfl⟩
instance : Lx "piece" 16 := ⟨rfl⟩
instance : Lx "locals_now" 17 := ⟨rfl⟩
instance : Lx "at" 18 := ⟨rfl⟩
instance : Lx "waits" 19 := ⟨rfl⟩
instance : Lx "vouch" 20 := ⟨rfl⟩
instance : Lx "set_now" 21 := ⟨rfl⟩
instance : Lx "top" 22 := ⟨rfl⟩
instance : Lx "enter" 23 := ⟨rfl⟩
instance : Lx "place" 24 := ⟨rfl⟩
instance : Lx "stop" 25 := ⟨rfl⟩
instance : Lx "go_on" 26 := ⟨rfl⟩
instance : Lx "done" 27 := ⟨rfl⟩
instance : Lx "asked" 28 := ⟨rfl⟩
instance : Lx "ends_with" 29 := ⟨rfl⟩
instance : Lx "use_call" 30 := ⟨rfl⟩
instance : Lx "why_not" 31 := ⟨rfl⟩
instance : Lx "call" 32 := ⟨rfl⟩
instance : Lx "ask" 33 := ⟨rfl⟩
instance : Lx "row_done" 34 := ⟨rfl⟩
instance : Lx "go" 35 := ⟨rfl⟩
instance : Lx "give" 36 := ⟨rfl⟩
instance : Lx "value" 37 := ⟨rfl⟩
instance : Lx "paper_of" 38 := ⟨rfl⟩
instance : Lx "set" 39 := ⟨rfl⟩
instance : Lx "same" 40 := ⟨rfl⟩
instance : Lx "sum" 41 := ⟨rfl⟩
instance : Lx "less" 42 := ⟨rfl⟩
instance : Lx "hold" 43 := ⟨rfl⟩
instance : Lx "last" 44 := ⟨rfl⟩
instance : Lx "keep" 45 := ⟨rfl⟩
instance : Lx "kept" 46 := ⟨rfl⟩
instance : Lx "skip" 47 := ⟨rfl⟩
instance : Lx "over" 48 := ⟨rfl⟩
instance : Lx "on" 49 := ⟨rfl⟩
instance : Lx "count" 50 := ⟨rfl⟩
instance : Lx "deed" 51 := ⟨rfl⟩
instance : Lx "gives" 52 := ⟨rfl⟩
instance : Lx "spent" 53 := ⟨rfl⟩
instance : Lx "stuck" 54 := ⟨rfl⟩
instance : Lx "refused" 55 := ⟨rfl⟩
instance : Lx "number" 56 := ⟨rfl⟩
instance : Lx "nobody" 57 := ⟨rfl⟩
instance : Lx "many" 58 := ⟨rfl⟩
instance : Lx "function" 59 := ⟨rfl⟩
instance : Lx "great" 60 := ⟨rfl⟩
instance : Lx "deep" 61 := ⟨rfl⟩
instance : Lx "held" 62 := ⟨rfl⟩
instance : Lx "lacks" 63 := ⟨rfl⟩
instance : Lx "fun" 64 := ⟨rfl⟩
instance : Lx "me" 65 := ⟨rfl⟩
instance : Lx "other" 66 := ⟨rfl⟩
instance : Lx "x" 67 := ⟨rfl⟩
instance : Lx "f" 68 := ⟨rfl⟩
instance : Lx "yy" 69 := ⟨rfl⟩
instance : Lx "a" 70 := ⟨rfl⟩
instance : Lx "abcdefgh" 71 := ⟨rfl⟩
instance : Lx "c" 72 := ⟨rfl⟩
instance : Lx "kk" 73 := ⟨rfl⟩
instance : Lx "none" 74 := ⟨rfl⟩
instance : Lx "w" 75 := ⟨rfl⟩
theorem lit_eq {a b : String} {i j : Nat} [x : Lx a i] [y : Lx b j] : (Str.ofString a = Str.ofString b) = (i = j) := by
  refine propext ⟨fun h => ?_, fun h => ?_⟩
  · have e1 := x.h
    have e2 := y.h
    rw [← h] at e2
    obtain ⟨l1, g1⟩ := List.getElem?_eq_some_iff.mp e1
    obtain ⟨l2, g2⟩ := List.getElem?_eq_some_iff.mp e2
    rcases Nat.lt_trichotomy i j with q | q | q
    · exact absurd (g1.trans g2.symm) (List.pairwise_iff_getElem.mp nmN i j l1 l2 q)
    · exact q
    · exact absurd (g2.trans g1.symm) (List.pairwise_iff_getElem.mp nmN j i l2 l1 q)
  · subst h
    have e1 := x.h
    rw [y.h] at e1
    exact (Option.some.inj e1).symm
theorem lit_beq {a b : String} {i j : Nat} [x : Lx a i] [y : Lx b j] : (Str.ofString a == Str.ofString b) = (i == j) := by
  have h : (Str.ofString a = Str.ofString b) = (i = j) := lit_eq
  by_cases q : i = j
  · rw [beq_iff_eq.mpr (h.mpr q), beq_iff_eq.mpr q]
  · rw [beq_eq_false_iff_ne.mpr fun z => q (h.mp z), beq_eq_false_iff_ne.mpr q]
end D
namespace R
open PySem L2 D C
def kv (l : List (Str × U)) : List (Key × U) := l.map fun p => (.inr p.1, p.2)
def getA (l : List (Str × U)) (x : Str) : Option U := (l.find? fun p => decide (p.1 = x)).map (·.2)
def putA (l : List (Str × U)) (x : Str) (v : U) : List (Str × U) := if (l.any fun p => decide (p.1 = x)) = true then l.map (fun p => if p.1 = x then (p.1, v) else p) else l ++ [(x, v)]
inductive Way where | hand | melt | walk
  deriving DecidableEq
def Way.cls : Way → Str
  | .hand => Str.ofString "Hand" | .melt => Str.ofString "Melt" | .walk => Str.ofString "Walk"
structure Fm where
  pc : Piece
  loc : List (Str × U)
  pos : Nat
  waits : Option Str
  vouch : List Str
  now : List Str
structure Rn where
  bk : List Piece
  base : List Str
  left : Nat
  shelf : List (Str × U)
  evs : List U
  ended : Option U
  frames : List Fm
  deepest : Nat
  papers : List U
  needs : List (List Str)
  stops : List (List Str)
/-- where a run's objects lie -/
structure Ly where
  m : Nat
  sh : Nat
  ev : Nat
  fl : Nat
  p : Nat
  q : Nat
  fs : List (Nat × Nat)
def oS : Option Str → U
  | none => .non
  | some x => .str x
def oU : Option U → U
  | none => .non
  | some x => x
def frFs (f : Fm) (b : Nat) : List (Str × U) := [(Str.ofString "piece", f.pc.u), (Str.ofString "locals_now", .ref b), (Str.ofString "at", .int f.pos), (Str.ofString "waits", oS f.waits), (Str.ofString "vouch", tS f.vouch), (Str.ofString "set_now", tS f.now)]
def core (L : Ly) (S : Rn) : List (Str × U) := [(Str.ofString "pieces", bookU S.bk), (Str.ofString "base", tS S.base), (Str.ofString "left", .int S.left), (Str.ofString "shelf", .ref L.sh), (Str.ofString "told_events", .ref L.ev), (Str.ofString "ended", oU S.ended), (Str.ofString "frames", .ref L.fl), (Str.ofString "deepest", .int S.deepest)]
def runFs (w : Way) (L : Ly) (S : Rn) : List (Str × U) := match w with
  | .hand => core L S
  | .walk => (Str.ofString "papers", .ref L.p) :: core L S
  | .melt => (Str.ofString "needs_now", .ref L.p) :: (Str.ofString "stops_now", .ref L.q) :: core L S
def flat : List (Nat × Nat) → List Nat
  | [] => []
  | (a, b) :: r => a :: b :: flat r
def xs (w : Way) (L : Ly) : List Nat := match w with
  | .hand => []
  | .walk => [L.p]
  | .melt => [L.p, L.q]
def adr (w : Way) (L : Ly) : List Nat := L.m :: L.sh :: L.ev :: L.fl :: (xs w L ++ flat L.fs)
def FrRep (st : Store) : List (Nat × Nat) → List Fm → Prop
  | [], [] => True
  | (a, b) :: r, f :: fs => st[a]? = some (.obj (Str.ofString "Frame") (frFs f b)) ∧ st[b]? = some (mkOb (kv f.loc)) ∧ FrRep st r fs
  | _, _ => False
def XRep (w : Way) (st : Store) (L : Ly) (S : Rn) : Prop := match w with
  | .hand => True
  | .walk => st[L.p]? = some (.lst S.papers)
  | .melt => st[L.p]? = some (.lst (S.needs.reverse.map tS)) ∧ st[L.q]? = some (.lst (S.stops.reverse.map tS))
structure Rep (w : Way) (s0 : Store) (L : Ly) (st : Store) (S : Rn) : Prop where
  ob : st[L.m]? = some (.obj w.cls (runFs w L S))
  sh : st[L.sh]? = some (mkOb (kv S.shelf))
  ev : st[L.ev]? = some (.lst S.evs)
  fl : st[L.fl]? = some (.lst (L.fs.map fun p => U.ref p.1).reverse)
  xp : XRep w st L S
  fr : FrRep st L.fs S.frames
  nd : (adr w L).Nodup
  lo : ∀ i ∈ adr w L, s0.length ≤ i ∧ i < st.length
  pre : ∀ i, i < s0.length → st[i]? = s0[i]?
theorem FrRep.eq {st st' : Store} : ∀ {fs : List (Nat × Nat)} {frs : List Fm}, FrRep st fs frs → (∀ i ∈ flat fs, st'[i]? = st[i]?) → FrRep st' fs frs
  | [], [], _, _ => trivial
  | (a, b) :: r, f :: fs, ⟨h1, h2, h3⟩, h => ⟨by rw [h a (by simp [flat]), h1], by rw [h b (by simp [flat]), h2], h3.eq fun i hi => h i (by simp [flat, hi])⟩
  | [], _ :: _, h, _ => h.elim
  | _ :: _, [], h, _ => h.elim
theorem set_ne {st : Store} {i j : Nat} {x : Ob} (h : j ≠ i) : (st.set i x)[j]? = st[j]? := by
  rw [List.getElem?_set]; simp [Ne.symm h]
theorem set_at {st : Store} {i : Nat} {x y : Ob} (h : st[i]? = some y) : (st.set i x)[i]? = some x := by
  obtain ⟨hl, _⟩ := List.getElem?_eq_some_iff.mp h
  rw [List.getElem?_set]; simp [hl]
theorem app_lt {st t : Store} {i : Nat} (h : i < st.length) : (st ++ t)[i]? = st[i]? := List.getElem?_append_left h
/-- writing at one address -/
theorem Rep.upd {w : Way} {s0 st : Store} {L : Ly} {S S' : Rn} (h : Rep w s0 L st S) {i : Nat} {x : Ob} (hi : i ∈ adr w L)
    (ob : (st.set i x)[L.m]? = some (.obj w.cls (runFs w L S'))) (sh : (st.set i x)[L.sh]? = some (mkOb (kv S'.shelf))) (ev : (st.set i x)[L.ev]? = some (.lst S'.evs))
    (fl : (st.set i x)[L.fl]? = some (.lst (L.fs.map fun p => U.ref p.1).reverse)) (xp : XRep w (st.set i x) L S') (fr : FrRep (st.set i x) L.fs S'.frames) : Rep w s0 L (st.set i x) S' where
  ob := ob
  sh := sh
  ev := ev
  fl := fl
  xp := xp
  fr := fr
  nd := h.nd
  lo := fun j hj => by rw [List.length_set]; exact h.lo j hj
  pre := fun j hj => by rw [set_ne (fun e => by have := (h.lo i hi).1; omega)]; exact h.pre j hj
theorem Rep.dis {w : Way} {s0 st : Store} {L : Ly} {S : Rn} (h : Rep w s0 L st S) : L.m ≠ L.sh ∧ L.m ≠ L.ev ∧ L.m ≠ L.fl ∧ L.sh ≠ L.ev ∧ L.sh ≠ L.fl ∧ L.ev ≠ L.fl ∧ (∀ i ∈ xs w L ++ flat L.fs, L.m ≠ i ∧ L.sh ≠ i ∧ L.ev ≠ i ∧ L.fl ≠ i) ∧ (xs w L).Nodup ∧ (flat L.fs).Nodup ∧ ∀ i ∈ xs w L, ∀ j ∈ flat L.fs, i ≠ j := by
  have n := h.nd
  unfold adr at n
  simp only [List.nodup_cons, List.mem_cons, not_or] at n
  obtain ⟨⟨a1, a2, a3, a4⟩, ⟨b1, b2, b3⟩, ⟨c1, c2⟩, d1, d2⟩ := n
  rw [List.nodup_append] at d2
  refine ⟨a1, a2, a3, b1, b2, c1, fun i hi => ⟨?_, ?_, ?_, ?_⟩, d2.1, d2.2.1, d2.2.2⟩
  · exact fun e => a4 (e ▸ hi)
  · exact fun e => b3 (e ▸ hi)
  · exact fun e => c2 (e ▸ hi)
  · exact fun e => d1 (e ▸ hi)
theorem XRep.eq {w : Way} {st st' : Store} {L : Ly} {S S' : Rn} (h : XRep w st L S) (e : ∀ i ∈ xs w L, st'[i]? = st[i]?) (e1 : S'.papers = S.papers) (e2 : S'.needs = S.needs) (e3 : S'.stops = S.stops) : XRep w st' L S' := by
  cases w
  · trivial
  · unfold XRep at h ⊢
    simp only [e2, e3]
    rw [e L.p (by simp [xs]), e L.q (by simp [xs])]
    exact h
  · unfold XRep at h ⊢
    simp only [e1]
    rw [e L.p (by simp [xs])]
    exact h
section
variable {w : Way} {s0 st : Store} {L : Ly} {S : Rn}
/-- a frame more -/
theorem Rep.push (h : Rep w s0 L st S) (f : Fm) :
    Rep w s0 {L with fs := (st.length, st.length + 1) :: L.fs} ((st ++ [.obj (Str.ofString "Frame") (frFs f (st.length + 1)), mkOb (kv f.loc)]).set L.fl (.lst ((L.fs.map fun p => U.ref p.1).reverse ++ [.ref st.length]))) {S with frames := f :: S.frames} := by
  obtain ⟨d1, d2, d3, d4, d5, d6, dx, -, dn, dy⟩ := h.dis
  have hx : xs w {L with fs := (st.length, st.length + 1) :: L.fs} = xs w L := by cases w <;> rfl
  have lt : ∀ i ∈ adr w L, i < st.length := fun i hi => (h.lo i hi).2
  have lfl : L.fl < st.length := lt _ (by simp [adr])
  have g : ∀ i ∈ adr w L, i ≠ L.fl → ((st ++ [.obj (Str.ofString "Frame") (frFs f (st.length + 1)), mkOb (kv f.loc)]).set L.fl (.lst ((L.fs.map fun p => U.ref p.1).reverse ++ [.ref st.length])))[i]? = st[i]? := fun i hi q => by
    rw [set_ne q, app_lt (lt i hi)]
  have mem : ∀ i, i ∈ xs w L ++ flat L.fs → i ∈ adr w L := fun i hi => by simp only [adr, List.mem_cons]; exact .inr (.inr (.inr (.inr hi)))
  exact {
    ob := by rw [g _ (by simp [adr]) d3, h.ob]; cases w <;> rfl
    sh := by rw [g _ (by simp [adr]) d5, h.sh]
    ev := by rw [g _ (by simp [adr]) d6, h.ev]
    fl := by
      rw [set_at (y := .lst (L.fs.map fun p => U.ref p.1).reverse) (by rw [app_lt lfl, h.fl])]
      simp
    xp := by
      have := h.xp.eq (S' := S) (fun i hi => g i (mem i (by simp [hi])) (Ne.symm (dx i (by simp [hi])).2.2.2)) rfl rfl rfl
      cases w
      · trivial
      · exact this
      · exact this
    fr := by
      refine ⟨?_, ?_, h.fr.eq fun i hi => g i (mem i (by simp [hi])) (Ne.symm (dx i (by simp [hi])).2.2.2)⟩
      · rw [set_ne (by omega)]; simp
      · rw [set_ne (by omega)]; simp
    nd := by
      have n := h.nd
      have l := lt
      have y : ∀ i ∈ adr w L, i ≠ st.length ∧ i ≠ st.length + 1 := fun i hi => by have := lt i hi; omega
      unfold adr at n y ⊢
      rw [hx]
      simp only [flat, List.nodup_cons, List.mem_cons, List.mem_append, not_or, List.nodup_append] at n y ⊢
      obtain ⟨⟨a1, a2, a3, a4, a5⟩, ⟨b1, b2, b3, b4⟩, ⟨c1, c2, c3⟩, ⟨e1, e2⟩, n1, n2, n3⟩ := n
      refine ⟨⟨a1, a2, a3, a4, ?_, ?_, a5⟩, ⟨b1, b2, b3, ?_, ?_, b4⟩, ⟨c1, c2, ?_, ?_, c3⟩, ⟨e1, ?_, ?_, e2⟩, n1, ⟨⟨by omega, fun z => ?_⟩, fun z => ?_, n2⟩, fun i hi j hj => ?_⟩
      · exact (y _ (by simp)).1
      · exact (y _ (by simp)).2
      · exact (y _ (by simp)).1
      · exact (y _ (by simp)).2
      · exact (y _ (by simp)).1
      · exact (y _ (by simp)).2
      · exact (y _ (by simp)).1
      · exact (y _ (by simp)).2
      · exact (y _ (by simp [z])).1 rfl
      · exact (y _ (by simp [z])).2 rfl
      · rcases hj with rfl | rfl | hj
        · exact (y _ (by simp [hi])).1
        · exact (y _ (by simp [hi])).2
        · exact n3 i hi j hj
    lo := fun i hi => by
      have y : i ∈ adr w L ∨ i = st.length ∨ i = st.length + 1 := by
        simp only [adr, hx, flat, List.mem_cons, List.mem_append] at hi ⊢
        rcases hi with q | q | q | q | q | q | q | q <;> simp [q]
      rw [List.length_set, List.length_append]
      have z := (h.lo L.fl (by simp [adr])).1
      rcases y with y | y | y
      · have := h.lo i y; simp only [List.length_cons, List.length_nil]; omega
      · simp; omega
      · simp; omega
    pre := fun i hi => by
      have z := (h.lo L.fl (by simp [adr]))
      rw [set_ne (by omega), app_lt (by omega)]; exact h.pre i hi }
end
end R
namespace R
open PySem L2 D C
section
variable {w : Way} {s0 st : Store} {L : Ly} {S : Rn} {f : Fm} {b : Nat}
@[simp] theorem g_pieces : (runFs w L S).lookup (Str.ofString "pieces") = some (bookU S.bk) := by cases w <;> simp [runFs, core, List.lookup, lit_beq]
@[simp] theorem g_base : (runFs w L S).lookup (Str.ofString "base") = some (tS S.base) := by cases w <;> simp [runFs, core, List.lookup, lit_beq]
@[simp] theorem g_left : (runFs w L S).lookup (Str.ofString "left") = some (.int S.left) := by cases w <;> simp [runFs, core, List.lookup, lit_beq]
@[simp] theorem g_shelf : (runFs w L S).lookup (Str.ofString "shelf") = some (.ref L.sh) := by cases w <;> simp [runFs, core, List.lookup, lit_beq]
@[simp] theorem g_told_events : (runFs w L S).lookup (Str.ofString "told_events") = some (.ref L.ev) := by cases w <;> simp [runFs, core, List.lookup, lit_beq]
@[simp] theorem g_ended : (runFs w L S).lookup (Str.ofString "ended") = some (oU S.ended) := by cases w <;> simp [runFs, core, List.lookup, lit_beq]
@[simp] theorem g_frames : (runFs w L S).lookup (Str.ofString "frames") = some (.ref L.fl) := by cases w <;> simp [runFs, core, List.lookup, lit_beq]
@[simp] theorem g_deepest : (runFs w L S).lookup (Str.ofString "deepest") = some (.int S.deepest) := by cases w <;> simp [runFs, core, List.lookup, lit_beq]
@[simp] theorem n_top : (runFs w L S).lookup (Str.ofString "top") = none := by cases w <;> simp [runFs, core, List.lookup, lit_beq]
@[simp] theorem n_enter : (runFs w L S).lookup (Str.ofString "enter") = none := by cases w <;> simp [runFs, core, List.lookup, lit_beq]
@[simp] theorem n_place : (runFs w L S).lookup (Str.ofString "place") = none := by cases w <;> simp [runFs, core, List.lookup, lit_beq]
@[simp] theorem n_stop : (runFs w L S).lookup (Str.ofString "stop") = none := by cases w <;> simp [runFs, core, List.lookup, lit_beq]
@[simp] theorem n_go_on : (runFs w L S).lookup (Str.ofString "go_on") = none := by cases w <;> simp [runFs, core, List.lookup, lit_beq]
@[simp] theorem n_done : (runFs w L S).lookup (Str.ofString "done") = none := by cases w <;> simp [runFs, core, List.lookup, lit_beq]
@[simp] theorem n_asked : (runFs w L S).lookup (Str.ofString "asked") = none := by cases w <;> simp [runFs, core, List.lookup, lit_beq]
@[simp] theorem n_ends_with : (runFs w L S).lookup (Str.ofString "ends_with") = none := by cases w <;> simp [runFs, core, List.lookup, lit_beq]
@[simp] theorem n_use_call : (runFs w L S).lookup (Str.ofString "use_call") = none := by cases w <;> simp [runFs, core, List.lookup, lit_beq]
@[simp] theorem n_why_not : (runFs w L S).lookup (Str.ofString "why_not") = none := by cases w <;> simp [runFs, core, List.lookup, lit_beq]
@[simp] theorem n_call : (runFs w L S).lookup (Str.ofString "call") = none := by cases w <;> simp [runFs, core, List.lookup, lit_beq]
@[simp] theorem n_ask : (runFs w L S).lookup (Str.ofString "ask") = none := by cases w <;> simp [runFs, core, List.lookup, lit_beq]
@[simp] theorem n_row_done : (runFs w L S).lookup (Str.ofString "row_done") = none := by cases w <;> simp [runFs, core, List.lookup, lit_beq]
@[simp] theorem n_go : (runFs w L S).lookup (Str.ofString "go") = none := by cases w <;> simp [runFs, core, List.lookup, lit_beq]
@[simp] theorem n_give : (runFs w L S).lookup (Str.ofString "give") = none := by cases w <;> simp [runFs, core, List.lookup, lit_beq]
@[simp] theorem n_value : (runFs w L S).lookup (Str.ofString "value") = none := by cases w <;> simp [runFs, core, List.lookup, lit_beq]
@[simp] theorem n_paper_of : (runFs w L S).lookup (Str.ofString "paper_of") = none := by cases w <;> simp [runFs, core, List.lookup, lit_beq]
@[simp] theorem nf_give : (frFs f b).lookup (Str.ofString "give") = none := by simp [frFs, List.lookup, lit_beq]
@[simp] theorem nf_value : (frFs f b).lookup (Str.ofString "value") = none := by simp [frFs, List.lookup, lit_beq]
@[simp] theorem gf_piece : (frFs f b).lookup (Str.ofString "piece") = some (f.pc.u) := by simp [frFs, List.lookup, lit_beq]
@[simp] theorem gf_locals_now : (frFs f b).lookup (Str.ofString "locals_now") = some (.ref b) := by simp [frFs, List.lookup, lit_beq]
@[simp] theorem gf_at : (frFs f b).lookup (Str.ofString "at") = some (.int f.pos) := by simp [frFs, List.lookup, lit_beq]
@[simp] theorem gf_waits : (frFs f b).lookup (Str.ofString "waits") = some (oS f.waits) := by simp [frFs, List.lookup, lit_beq]
@[simp] theorem gf_vouch : (frFs f b).lookup (Str.ofString "vouch") = some (tS f.vouch) := by simp [frFs, List.lookup, lit_beq]
@[simp] theorem gf_set_now : (frFs f b).lookup (Str.ofString "set_now") = some (tS f.now) := by simp [frFs, List.lookup, lit_beq]
@[simp] theorem pf_at (n : Nat) : putU (Str.ofString "at") (.int n) (frFs f b) = frFs {f with pos := n} b := by simp [frFs, putU, lit_eq]
@[simp] theorem pf_waits (x : Str) : putU (Str.ofString "waits") (.str x) (frFs f b) = frFs {f with waits := some x} b := by simp [frFs, putU, lit_eq, oS]
@[simp] theorem pf_waits0 : putU (Str.ofString "waits") .non (frFs f b) = frFs {f with waits := none} b := by simp [frFs, putU, lit_eq, oS]
@[simp] theorem p_left (n : Nat) : putU (Str.ofString "left") (.int n) (runFs w L S) = runFs w L {S with left := n} := by cases w <;> simp [runFs, core, putU, lit_eq]
@[simp] theorem p_deepest (n : Nat) : putU (Str.ofString "deepest") (.int n) (runFs w L S) = runFs w L {S with deepest := n} := by cases w <;> simp [runFs, core, putU, lit_eq]
@[simp] theorem g_papers : (runFs .walk L S).lookup (Str.ofString "papers") = some (.ref L.p) := by simp [runFs, core, List.lookup, lit_beq]
@[simp] theorem g_needs : (runFs .melt L S).lookup (Str.ofString "needs_now") = some (.ref L.p) := by simp [runFs, core, List.lookup, lit_beq]
@[simp] theorem g_stops : (runFs .melt L S).lookup (Str.ofString "stops_now") = some (.ref L.q) := by simp [runFs, core, List.lookup, lit_beq]
@[simp] theorem p_needs (n : Nat) : putU (Str.ofString "needs_now") (.ref n) (runFs .melt L S) = runFs .melt {L with p := n} S := by simp [runFs, core, putU, lit_eq]
@[simp] theorem p_stops (n : Nat) : putU (Str.ofString "stops_now") (.ref n) (runFs .melt L S) = runFs .melt {L with q := n} S := by simp [runFs, core, putU, lit_eq]
@[simp] theorem runFs_len : (runFs w L S).length < 1000 := by cases w <;> simp [runFs, core]
@[simp] theorem frFs_len : (frFs f b).length < 1000 := by simp [frFs]
@[simp] theorem last_rev (a : Nat × Nat) (r : List (Nat × Nat)) (g : Nat × Nat → U) : atI ((r.map g).reverse ++ [g a]) (-1) = some (g a) := by
  have e : ixN ((r.map g).reverse ++ [g a]).length (-1) = some r.length := by
    unfold ixN
    rw [if_neg (by omega), if_pos (by simp; omega)]
    simp
    omega
  unfold atI
  rw [e]
  simp
@[simp] theorem cls_ne : ¬ (w.cls = Str.ofString "Frame") := by cases w <;> simp [Way.cls, lit_eq]
end
end R
namespace R
open PySem L2 D C
def fnU (n : Str) (vs : List U) : U := .tup [.str wFun, .str n, .tup vs]
def Fm.val (f : Fm) (x : Str) : U := (getA f.loc x).getD (.int 0)
def Fm.giv (f : Fm) (x : Str) (v : U) : Fm := {f with loc := putA f.loc x v}
def Fm.on (f : Fm) (k : Nat) : Fm := {f with pos := f.pos + (1 + k)}
def Rn.place (S : Rn) : List U := match S.frames with
  | f :: _ => [.str f.pc.name, .int f.pos]
  | [] => []
def Rn.stop (S : Rn) (l : List U) : Rn := {S with ended := some (.tup (l ++ S.place))}
def Rn.goOn (S : Rn) (k : Nat) : Rn := {S with frames := match S.frames with
  | f :: fs => f.on k :: fs
  | [] => []}
def Rn.done (S : Rn) (x : Str) (v : U) : Rn := {S with evs := S.evs ++ [.tup ([.str (Str.ofString "deed"), .str x, v] ++ S.place)]}
def arith (f : Fm) (x : Str) (op : Int → Int → Int) (u v : U) : Option Str × Fm := match u, v with
  | .int i, .int j => if okN (op i j) = true then (none, f.giv x (.int (op i j))) else (some (Str.ofString "great"), f)
  | _, _ => (some (Str.ofString "function"), f)
/-- one of the plain rows -/
def plainF (f : Fm) (sh : List (Str × U)) : Row → Option Str × Fm × List (Str × U)
  | .set x n => (none, f.giv x (.int n), sh)
  | .same x a => (none, f.giv x (f.val a), sh)
  | .keep c a => (none, f, putA sh c (f.val a))
  | .kept x c => (none, f.giv x ((getA sh c).getD (.int 0)), sh)
  | .hold x n as => if 4 < deepU 5 (fnU n (as.map f.val)) then (some (Str.ofString "deep"), f, sh) else (none, f.giv x (fnU n (as.map f.val)), sh)
  | .sum x a b => let q := arith f x (· + ·) (f.val a) (f.val b); (q.1, q.2, sh)
  | .less x a b => let q := arith f x (· - ·) (f.val a) (f.val b); (q.1, q.2, sh)
  | _ => (none, f, sh)
def findP (bk : List Piece) (n : Str) : Option Piece := bk.find? fun p => decide (p.name = n)
def whyNot (bk : List Piece) (v : U) (k : Nat) : Option Str := match v with
  | .tup [_, .str n, .tup us] => match findP bk n with
    | none => some (Str.ofString "nobody")
    | some p => if us.length + k = p.params.length then none else some (Str.ofString "many")
  | _ => some (Str.ofString "number")
def enteredS (own caller theirs vouch : List Str) : List Str := bothS own (joinS caller (bothS vouch theirs))
def zipA (ks : List Str) (vs : List U) : List (Str × U) := (ks.zip vs).foldl (fun acc p => putA acc p.1 p.2) []
def newF (p : Piece) (gv : List U) : Fm := ⟨p, zipA p.params gv, 0, none, [], []⟩
def Rn.push (S : Rn) (f : Fm) : Rn := {S with frames := f :: S.frames, deepest := max S.deepest (S.frames.length + 1)}
/-- a piece is entered; c: its caller, on top -/
def Rn.enter (w : Way) (S : Rn) (p : Piece) (gv : List U) (c : Option Fm) (vs : List Str) : Rn := match w, c with
  | .hand, none => S.push {newF p gv with now := bothS p.own S.base}
  | .hand, some c => (if c.waits = none then {S with frames := S.frames.drop 1} else S).push {newF p gv with now := enteredS p.own c.now c.pc.own vs}
  | .walk, none => S.push (newF p gv)
  | .walk, some c => ({S with frames := {c with vouch := vs} :: S.frames.drop 1} : Rn).push (newF p gv)
  | .melt, none => ({S with needs := p.own :: S.needs, stops := [] :: S.stops} : Rn).push (newF p gv)
  | .melt, some c => if c.waits = none then match S.needs, S.stops with
      | below :: ns, sb :: ss => ({S with frames := S.frames.drop 1, needs := bothS p.own (joinS (bothS c.pc.own vs) below) :: ns, stops := joinS (bothS c.pc.own vs) (bothS below sb) :: ss} : Rn).push (newF p gv)
      | _, _ => S
    else ({S with needs := p.own :: S.needs, stops := bothS c.pc.own vs :: S.stops} : Rn).push (newF p gv)
def Rn.use (S : Rn) (k : Rn → Rn) : Rn := match S.left with
  | 0 => S.stop [.str (Str.ofString "spent")]
  | n + 1 => k {S with left := n}
def Rn.call (w : Way) (S : Rn) (f : Fm) (fs : List Fm) (x : Option Str) (g : Str) (as vs : List Str) : Rn := match whyNot S.bk (f.val g) as.length with
  | some y => S.stop [.str (Str.ofString "stuck"), .str y]
  | none => S.use fun S => match f.val g with
    | .tup [_, .str n, .tup us] => match findP S.bk n with
      | some p =>
        let c := {f with waits := match x with | some y => some y | none => f.waits}
        ({S with frames := c :: fs} : Rn).enter w p (us ++ as.map f.val) (some c) vs
      | none => S
    | _ => S
/-- the frame on top ends with a value -/
def Rn.ends0 (S : Rn) (v : U) : Rn := match (S.frames.drop 1).dropWhile (fun f => f.waits.isNone) with
  | [] => {S with frames := [], ended := some (.tup [.str (Str.ofString "gives"), v])}
  | f :: r => {S with frames := ({f.giv (f.waits.getD (Str.ofString "")) v with waits := none} : Fm).on 0 :: r}
def Rn.ends (w : Way) (S : Rn) (v : U) : Rn :=
  let S1 := S.ends0 v
  match w with
  | .hand => S1
  | .walk => {S1 with frames := match S1.frames with
    | f :: r => {f with vouch := []} :: r
    | [] => []}
  | .melt => {S1 with needs := S1.needs.drop (S1.needs.length - S1.frames.length), stops := S1.stops.drop (S1.stops.length - S1.frames.length)}
def frU (n : Str) (v : List Str) : U := .tup [.str n, tS v]
/-- a paper: the frames from the asker down -/
def paper (base : List Str) (x : Str) : List Fm → Bool → List U → Str × List U
  | [], _, met => (if x ∈ base then Str.ofString "held" else Str.ofString "lacks", met)
  | f :: fs, first, met =>
    let v := if first = true then [] else f.vouch
    let met := met ++ [frU f.pc.name v]
    if x ∉ f.pc.own then (Str.ofString "lacks", met) else if x ∈ v then (Str.ofString "held", met) else paper base x fs false met
def meltAsk (base : List Str) (x : Str) : List (List Str) → List (List Str) → Bool
  | n :: ns, s :: ss => if x ∉ n then false else if x ∈ s then true else meltAsk base x ns ss
  | _, _ => decide (x ∈ base)
def Rn.asked (w : Way) (S : Rn) (x : Str) : Bool × Rn := match w with
  | .hand => (match S.frames with | f :: _ => decide (x ∈ f.now) | [] => false, S)
  | .melt => (meltAsk S.base x S.needs S.stops, S)
  | .walk =>
    let p := paper S.base x S.frames true []
    (decide (p.1 = Str.ofString "held"), {S with papers := S.papers ++ [.tup [.str p.1, .lst p.2]]})
def isZ : U → Bool
  | .int i => decide (i = 0)
  | _ => false
def Rn.rowDone (w : Way) (S : Rn) (f : Fm) (fs : List Fm) : Row → Rn
  | .call x g as vs => S.call w f fs (some x) g as vs
  | .last g as vs => S.call w f fs none g as vs
  | .give a => S.ends w (f.val a)
  | .done x a => (S.done x (f.val a)).goOn 0
  | .skip a k => S.goOn (if isZ (f.val a) = true then k.toNat else 0)
  | .over k => S.goOn k.toNat
  | .on => S.goOn 0
  | .count => S.use fun S => S.goOn 0
  | .ask x k =>
    let q := S.asked w x
    ({q.2 with evs := q.2.evs ++ [.tup ([.str (Str.ofString "ask"), .str x, .bl q.1] ++ q.2.place)]} : Rn).goOn (if q.1 = true then 0 else k.toNat)
  | .deed x a =>
    let q := S.asked w x
    if q.1 = true then (q.2.done x (f.val a)).goOn 0 else q.2.stop [.str (Str.ofString "refused"), .str x]
  | r => match plainF f S.shelf r with
    | (some y, _, _) => S.stop [.str (Str.ofString "stuck"), .str y]
    | (none, f', sh') => ({S with frames := f' :: fs, shelf := sh'} : Rn).goOn 0
def Rn.step (w : Way) (S : Rn) : Rn := match S.frames with
  | [] => S
  | f :: fs => match f.pc.rows[f.pos]? with
    | none => S.ends w (.int 0)
    | some r => S.rowDone w f fs r
def Rn.go (w : Way) : Nat → Rn → Rn
  | 0, S => S
  | n + 1, S => match S.ended with
    | some _ => S
    | none => Rn.go w n (S.step w)
def start0 (bk : List Piece) (base : List Str) (calls : Nat) (cells : List (Str × U)) : Rn := ⟨bk, base, calls, cells, [], none, [], 0, [], [], []⟩
def Rn.start (w : Way) (bk : List Piece) (p : Piece) (inp : List U) (base : List Str) (calls : Nat) (cells : List (Str × U)) : Rn := (start0 bk base calls cells).enter w p inp none []
end R
namespace RM
open PySem L2 D
def tab_PARTS : List (Str × U) := [(Str.ofString "set", (.tup [(.str (Str.ofString "word")), (.str (Str.ofString "number"))])), (Str.ofString "same", (.tup [(.str (Str.ofString "word")), (.str (Str.ofString "word"))])), (Str.ofString "sum", (.tup [(.str (Str.ofString "word")), (.str (Str.ofString "word")), (.str (Str.ofString "word"))])), (Str.ofString "less", (.tup [(.str (Str.ofString "word")), (.str (Str.ofString "word")), (.str (Str.ofString "word"))])), (Str.ofString "hold", (.tup [(.str (Str.ofString "word")), (.str (Str.ofString "word")), (.str (Str.ofString "args"))])), (Str.ofString "call", (.tup [(.str (Str.ofString "word")), (.str (Str.ofString "word")), (.str (Str.ofString "args")), (.str (Str.ofString "leaves"))])), (Str.ofString "last", (.tup [(.str (Str.ofString "word")), (.str (Str.ofString "args")), (.str (Str.ofString "leaves"))])), (Str.ofString "give", (.tup [(.str (Str.ofString "word"))])), (Str.ofString "keep", (.tup [(.str (Str.ofString "word")), (.str (Str.ofString "word"))])), (Str.ofString "kept", (.tup [(.str (Str.ofString "word")), (.str (Str.ofString "word"))])), (Str.ofString "skip", (.tup [(.str (Str.ofString "word")), (.str (Str.ofString "over"))])), (Str.ofString "over", (.tup [(.str (Str.ofString "over"))])), (Str.ofString "on", (.tup [])), (Str.ofString "count", (.tup [])), (Str.ofString "ask", (.tup [(.str (Str.ofString "word")), (.str (Str.ofString "over"))])), (Str.ofString "deed", (.tup [(.str (Str.ofString "word")), (.str (Str.ofString "word"))])), (Str.ofString "done", (.tup [(.str (Str.ofString "word")), (.str (Str.ofString "word"))]))]
def b_goes_over : DS := (sSeq (sIf (tst (bin in2 (bin ix2 (var 0) (cst (.int 0))) (appN szT (acons (cst (.str (Str.ofString "skip"))) (acons (cst (.str (Str.ofString "over"))) (acons (cst (.str (Str.ofString "ask"))) anil)))))) (sSeq (sRet (bin ix2 (var 0) (neg1D (cst (.int 1))))) sNil) sNil) (sSeq (sRet (cst (.int 0))) sNil))
def f_goes_over : List U → Store → Rs U := runB 1 1 b_goes_over
def b_is_word : DS := (sSeq (sIf (orT (notT (tst (appN isiN (acons (var 0) (acons (cst (.ty "str")) anil))))) (notT (tst (chain le2 le2 (cst (.int 1)) (appN lenN (acons (var 0) anil)) (cst (.int 8)))))) (sSeq (sRet (cst (.bl false))) sNil) sNil) (sSeq (sRet (appN allN (acons (newL (compD (itemsD (var 0)) [1] (tgN 1) yesT (bin in2 (var 1) (cst (.str (Str.ofString "abcdefghijklmnopqrstuvwxyz")))))) anil))) sNil))
def f_is_word : List U → Store → Rs U := runB 2 1 b_is_word
def t1_are_leaves : DS := (sSeq (sIf (orT (notT (tst (appU f_is_word (acons (var 2) anil)))) (andT (tst (bin gt2 (var 1) (cst (.int 0)))) (tst (bin le2 (var 2) (bin ix2 (var 0) (bin sub2 (var 1) (cst (.int 1)))))))) (sSeq (sRet (cst (.bl false))) sNil) sNil) sNil)
def b_are_leaves : DS := (sSeq (sIf (orT (notT (tst (appN isiN (acons (var 0) (acons (cst (.ty "tuple")) anil))))) (tst (bin gt2 (appN lenN (acons (var 0) anil)) (cst (.int 8))))) (sSeq (sRet (cst (.bl false))) sNil) sNil) (sSeq (sFor (itA enumerateN (acons (var 0) anil)) (tgT [1, 2]) t1_are_leaves) (sSeq (sRet (cst (.bl true))) sNil)))
def f_are_leaves : List U → Store → Rs U := runB 3 1 b_are_leaves
def b_are_args : DS := (sSeq (sRet (andV (appN isiN (acons (var 0) (acons (cst (.ty "tuple")) anil))) (andV (bin le2 (appN lenN (acons (var 0) anil)) (cst (.int 4))) (appN allN (acons (newL (compD (itemsD (var 0)) [1] (tgN 1) yesT (appU f_is_word (acons (var 1) anil)))) anil))))) sNil)
def f_are_args : List U → Store → Rs U := runB 2 1 b_are_args
def b_is_whole : DS := (sSeq (sRet (andV (appN isiN (acons (var 0) (acons (cst (.ty "int")) anil))) (notV (appN isiN (acons (var 0) (acons (cst (.ty "bool")) anil)))))) sNil)
def f_is_whole : List U → Store → Rs U := runB 1 1 b_is_whole
def b_is_number : DS := (sSeq (sRet (andV (appU f_is_whole (acons (var 0) anil)) (bin le2 (appN absN (acons (var 0) anil)) (cst (.int 1000000000000000000))))) sNil)
def f_is_number : List U → Store → Rs U := runB 1 1 b_is_number
def b_is_part : DS := (sSeq (sIf (tst (bin eq2 (var 0) (cst (.str (Str.ofString "word"))))) (sSeq (sRet (appU f_is_word (acons (var 1) anil))) sNil) sNil) (sSeq (sIf (tst (bin eq2 (var 0) (cst (.str (Str.ofString "number"))))) (sSeq (sRet (appU f_is_number (acons (var 1) anil))) sNil) sNil) (sSeq (sIf (tst (bin eq2 (var 0) (cst (.str (Str.ofString "args"))))) (sSeq (sRet (appU f_are_args (acons (var 1) anil))) sNil) sNil) (sSeq (sIf (tst (bin eq2 (var 0) (cst (.str (Str.ofString "leaves"))))) (sSeq (sRet (appU f_are_leaves (acons (var 1) anil))) sNil) sNil) (sSeq (sRet (andV (appU f_is_whole (acons (var 1) anil)) (bin gt2 (var 1) (cst (.int 0))))) sNil)))))
def f_is_part : List U → Store → Rs U := runB 2 2 b_is_part
def b_is_row : DS := (sSeq (sIf (orT (notT (tst (appN isiN (acons (var 0) (acons (cst (.ty "tuple")) anil))))) (orT (tst (bin eq2 (var 0) (appN szT anil))) (notT (tst (appN isiN (acons (bin ix2 (var 0) (cst (.int 0))) (acons (cst (.ty "str")) anil))))))) (sSeq (sRet (cst (.bl false))) sNil) sNil) (sSeq (sIf (orT (tst (ap1 (tabNot tab_PARTS) (bin ix2 (var 0) (cst (.int 0))))) (tst (bin ne2 (appN lenN (acons (var 0) anil)) (bin add2 (appN lenN (acons (ap1 (tabGet tab_PARTS) (bin ix2 (var 0) (cst (.int 0)))) anil)) (cst (.int 1)))))) (sSeq (sRet (cst (.bl false))) sNil) sNil) (sSeq (sRet (appN allN (acons (newL (compD (itA zipN (acons (ap1 (tabGet tab_PARTS) (bin ix2 (var 0) (cst (.int 0)))) (acons (slD (var 0) (soO (cst (.int 1))) noO) anil))) [1, 2] (tgT [1, 2]) yesT (appU f_is_part (acons (var 1) (acons (var 2) anil))))) anil))) sNil)))
def f_is_row : List U → Store → Rs U := runB 3 1 b_is_row
def t1_bad_row : DS := (sSeq (sIf (orT (notT (tst (appU f_is_row (acons (var 2) anil)))) (tst (bin gt2 (bin add2 (bin add2 (var 1) (cst (.int 1))) (appU f_goes_over (acons (var 2) anil))) (appN lenN (acons (var 0) anil))))) (sSeq (sRet (var 1)) sNil) sNil) sNil)
def b_bad_row : DS := (sSeq (sFor (itA enumerateN (acons (var 0) anil)) (tgT [1, 2]) t1_bad_row) (sSeq (sRet (cst .non)) sNil))
def f_bad_row : List U → Store → Rs U := runB 3 1 b_bad_row
def b_is_head : DS := (sSeq (sIf (orT (notT (tst (appN isiN (acons (var 0) (acons (cst (.ty "tuple")) anil))))) (tst (bin ne2 (appN lenN (acons (var 0) anil)) (cst (.int 4))))) (sSeq (sRet (cst (.bl false))) sNil) sNil) (sSeq (sUnp (tgA [1, 2, 3, 4]) (var 0)) (sSeq (sIf (orT (notT (tst (appU f_is_word (acons (var 1) anil)))) (orT (notT (tst (appU f_are_leaves (acons (var 2) anil)))) (orT (notT (tst (appU f_are_args (acons (var 3) anil)))) (tst (bin ne2 (ap1 lenSet1 (var 3)) (appN lenN (acons (var 3) anil))))))) (sSeq (sRet (cst (.bl false))) sNil) sNil) (sSeq (sRet (andV (appN isiN (acons (var 4) (acons (cst (.ty "tuple")) anil))) (chain le2 le2 (cst (.int 1)) (appN lenN (acons (var 4) anil)) (cst (.int 60))))) sNil))))
def f_is_head : List U → Store → Rs U := runB 5 1 b_is_head
def b_leaves_in : DS := (sSeq (sIf (tst (bin in2 (bin ix2 (var 0) (cst (.int 0))) (appN szT (acons (cst (.str (Str.ofString "call"))) (acons (cst (.str (Str.ofString "last"))) anil))))) (sSeq (sRet (bin ix2 (var 0) (neg1D (cst (.int 1))))) sNil) sNil) (sSeq (sIf (tst (bin in2 (bin ix2 (var 0) (cst (.int 0))) (appN szT (acons (cst (.str (Str.ofString "ask"))) (acons (cst (.str (Str.ofString "deed"))) (acons (cst (.str (Str.ofString "done"))) anil)))))) (sSeq (sRet (appN szT (acons (bin ix2 (var 0) (cst (.int 1))) anil))) sNil) sNil) (sSeq (sRet (appN szT anil)) sNil)))
def f_leaves_in : List U → Store → Rs U := runB 1 1 b_leaves_in
end RM
namespace T_allcallers_k13_ends_and_bounds
open PySem L2 D
def topS (i : Nat) : Stmt := PySem.Challenge.pw_allcallers_k13_ends_and_bounds.main.body.getD i (.Pass ⟨0, 0, 0, 0⟩)
abbrev s_l_hand : Stmt := topS 40
abbrev n_l_hand : List Str := [Str.ofString "_law_script", Str.ofString "_law_k", Str.ofString "_law_cell", Str.ofString "_law_seed"]
theorem sc_l_hand : FnScope n_l_hand [Str.ofString "_law_script", Str.ofString "_law_k"] (defScope s_l_hand) := ⟨rfl, rfl, rfl, by decide +kernel, rfl, by decide +kernel, by decide +kernel⟩
abbrev s_l_draw : Stmt := topS 41
abbrev n_l_draw : List Str := [Str.ofString "_law_hand_here", Str.ofString "_law_many", Str.ofString "_law_found"]
theorem sc_l_draw : FnScope n_l_draw [Str.ofString "_law_hand_here", Str.ofString "_law_many"] (defScope s_l_draw) := ⟨rfl, rfl, rfl, by decide +kernel, rfl, by decide +kernel, by decide +kernel⟩
abbrev s_Reader____init__ : Stmt := inClass (topS 36) 0
abbrev n_Reader____init__ : List Str := [Str.ofString "self", Str.ofString "most"]
theorem sc_Reader____init__ : FnScope n_Reader____init__ [Str.ofString "self", Str.ofString "most"] (defScope s_Reader____init__) := ⟨rfl, rfl, rfl, by decide +kernel, rfl, by decide +kernel, by decide +kernel⟩
abbrev s_goes_over : Stmt := topS 18
abbrev n_goes_over : List Str := [Str.ofString "row"]
theorem sc_goes_over : FnScope n_goes_over [Str.ofString "row"] (defScope s_goes_over) := ⟨rfl, rfl, rfl, by decide +kernel, rfl, by decide +kernel, by decide +kernel⟩
abbrev s_is_word : Stmt := topS 7
abbrev n_is_word : List Str := [Str.ofString "thing", Str.ofString "sign"]
theorem sc_is_word : FnScope n_is_word [Str.ofString "thing"] (defScope s_is_word) := ⟨rfl, rfl, rfl, by decide +kernel, rfl, by decide +kernel, by decide +kernel⟩
abbrev s_are_args : Stmt := topS 15
abbrev n_are_args : List Str := [Str.ofString "thing", Str.ofString "word"]
theorem sc_are_args : FnScope n_are_args [Str.ofString "thing"] (defScope s_are_args) := ⟨rfl, rfl, rfl, by decide +kernel, rfl, by decide +kernel, by decide +kernel⟩
abbrev s_are_leaves : Stmt := topS 8
abbrev n_are_leaves : List Str := [Str.ofString "thing", Str.ofString "place", Str.ofString "word"]
theorem sc_are_leaves : FnScope n_are_leaves [Str.ofString "thing"] (defScope s_are_leaves) := ⟨rfl, rfl, rfl, by decide +kernel, rfl, by decide +kernel, by decide +kernel⟩
abbrev s_is_whole : Stmt := topS 13
abbrev n_is_whole : List Str := [Str.ofString "thing"]
theorem sc_is_whole : FnScope n_is_whole [Str.ofString "thing"] (defScope s_is_whole) := ⟨rfl, rfl, rfl, by decide +kernel, rfl, by decide +kernel, by decide +kernel⟩
abbrev s_is_number : Stmt := topS 14
abbrev n_is_number : List Str := [Str.ofString "thing"]
theorem sc_is_number : FnScope n_is_number [Str.ofString "thing"] (defScope s_is_number) := ⟨rfl, rfl, rfl, by decide +kernel, rfl, by decide +kernel, by decide +kernel⟩
abbrev s_is_part : Stmt := topS 16
abbrev n_is_part : List Str := [Str.ofString "sort", Str.ofString "thing"]
theorem sc_is_part : FnScope n_is_part [Str.ofString "sort", Str.ofString "thing"] (defScope s_is_part) := ⟨rfl, rfl, rfl, by decide +kernel, rfl, by decide +kernel, by decide +kernel⟩
abbrev s_is_row : Stmt := topS 17
abbrev n_is_row : List Str := [Str.ofString "thing", Str.ofString "sort", Str.ofString "part"]
theorem sc_is_row : FnScope n_is_row [Str.ofString "thing"] (defScope s_is_row) := ⟨rfl, rfl, rfl, by decide +kernel, rfl, by decide +kernel, by decide +kernel⟩
abbrev s_bad_row : Stmt := topS 25
abbrev n_bad_row : List Str := [Str.ofString "rows", Str.ofString "at", Str.ofString "row"]
theorem sc_bad_row : FnScope n_bad_row [Str.ofString "rows"] (defScope s_bad_row) := ⟨rfl, rfl, rfl, by decide +kernel, rfl, by decide +kernel, by decide +kernel⟩
abbrev s_Reader__end : Stmt := inClass (topS 36) 2
abbrev n_Reader__end : List Str := [Str.ofString "self", Str.ofString "at", Str.ofString "bad"]
theorem sc_Reader__end : FnScope n_Reader__end [Str.ofString "self", Str.ofString "at"] (defScope s_Reader__end) := ⟨rfl, rfl, rfl, by decide +kernel, rfl, by decide +kernel, by decide +kernel⟩
abbrev s_Reader__learn : Stmt := inClass (topS 36) 1
abbrev n_Reader__learn : List Str := [Str.ofString "self", Str.ofString "words", Str.ofString "at", Str.ofString "word"]
theorem sc_Reader__learn : FnScope n_Reader__learn [Str.ofString "self", Str.ofString "words", Str.ofString "at"] (defScope s_Reader__learn) := ⟨rfl, rfl, rfl, by decide +kernel, rfl, by decide +kernel, by decide +kernel⟩
abbrev s_is_head : Stmt := topS 24
abbrev n_is_head : List Str := [Str.ofString "thing", Str.ofString "name", Str.ofString "own", Str.ofString "params", Str.ofString "rows"]
theorem sc_is_head : FnScope n_is_head [Str.ofString "thing"] (defScope s_is_head) := ⟨rfl, rfl, rfl, by decide +kernel, rfl, by decide +kernel, by decide +kernel⟩
abbrev s_parted : Stmt := topS 32
abbrev n_parted : List Str := [Str.ofString "words", Str.ofString "at"]
theorem sc_parted : FnScope n_parted [Str.ofString "words"] (defScope s_parted) := ⟨rfl, rfl, rfl, by decide +kernel, rfl, by decide +kernel, by decide +kernel⟩
abbrev s_head_of : Stmt := topS 35
abbrev n_head_of : List Str := [Str.ofString "words", Str.ofString "both"]
theorem sc_head_of : FnScope n_head_of [Str.ofString "words"] (defScope s_head_of) := ⟨rfl, rfl, rfl, by decide +kernel, rfl, by decide +kernel, by decide +kernel⟩
abbrev s_Reader__begin : Stmt := inClass (topS 36) 3
abbrev n_Reader__begin : List Str := [Str.ofString "self", Str.ofString "words", Str.ofString "at", Str.ofString "piece"]
theorem sc_Reader__begin : FnScope n_Reader__begin [Str.ofString "self", Str.ofString "words", Str.ofString "at"] (defScope s_Reader__begin) := ⟨rfl, rfl, rfl, by decide +kernel, rfl, by decide +kernel, by decide +kernel⟩
abbrev s_leaves_in : Stmt := topS 19
abbrev n_leaves_in : List Str := [Str.ofString "row"]
theorem sc_leaves_in : FnScope n_leaves_in [Str.ofString "row"] (defScope s_leaves_in) := ⟨rfl, rfl, rfl, by decide +kernel, rfl, by decide +kernel, by decide +kernel⟩
abbrev s_number_of : Stmt := topS 30
abbrev n_number_of : List Str := [Str.ofString "text", Str.ofString "sign"]
theorem sc_number_of : FnScope n_number_of [Str.ofString "text"] (defScope s_number_of) := ⟨rfl, rfl, rfl, by decide +kernel, rfl, by decide +kernel, by decide +kernel⟩
abbrev s_signed : Stmt := topS 31
abbrev n_signed : List Str := [Str.ofString "text", Str.ofString "found"]
theorem sc_signed : FnScope n_signed [Str.ofString "text"] (defScope s_signed) := ⟨rfl, rfl, rfl, by decide +kernel, rfl, by decide +kernel, by decide +kernel⟩
abbrev s_part_of : Stmt := topS 34
abbrev n_part_of : List Str := [Str.ofString "sort", Str.ofString "word"]
theorem sc_part_of : FnScope n_part_of [Str.ofString "sort", Str.ofString "word"] (defScope s_part_of) := ⟨rfl, rfl, rfl, by decide +kernel, rfl, by decide +kernel, by decide +kernel⟩
abbrev s_row_of : Stmt := topS 33
abbrev n_row_of : List Str := [Str.ofString "words", Str.ofString "sorts", Str.ofString "parts", Str.ofString "rest", Str.ofString "sort", Str.ofString "row", Str.ofString "both"]
theorem sc_row_of : FnScope n_row_of [Str.ofString "words"] (defScope s_row_of) := ⟨rfl, rfl, rfl, by decide +kernel, rfl, by decide +kernel, by decide +kernel⟩
abbrev s_Reader__take : Stmt := inClass (topS 36) 4
abbrev n_Reader__take : List Str := [Str.ofString "self", Str.ofString "text", Str.ofString "at", Str.ofString "words", Str.ofString "row"]
theorem sc_Reader__take : FnScope n_Reader__take [Str.ofString "self", Str.ofString "text", Str.ofString "at"] (defScope s_Reader__take) := ⟨rfl, rfl, rfl, by decide +kernel, rfl, by decide +kernel, by decide +kernel⟩
abbrev s_read_pieces : Stmt := topS 37
abbrev n_read_pieces : List Str := [Str.ofString "text", Str.ofString "most", Str.ofString "reader", Str.ofString "rows", Str.ofString "at", Str.ofString "row"]
theorem sc_read_pieces : FnScope n_read_pieces [Str.ofString "text", Str.ofString "most"] (defScope s_read_pieces) := ⟨rfl, rfl, rfl, by decide +kernel, rfl, by decide +kernel, by decide +kernel⟩
abbrev s_read_book : Stmt := topS 38
abbrev n_read_book : List Str := [Str.ofString "text"]
theorem sc_read_book : FnScope n_read_book [Str.ofString "text"] (defScope s_read_book) := ⟨rfl, rfl, rfl, by decide +kernel, rfl, by decide +kernel, by decide +kernel⟩
abbrev s_l_told : Stmt := topS 42
abbrev n_l_told : List Str := [Str.ofString "_law_thing", Str.ofString "_law_found", Str.ofString "_law_row", Str.ofString "_law_piece", Str.ofString "e"]
theorem sc_l_told : FnScope n_l_told [Str.ofString "_law_thing"] (defScope s_l_told) := ⟨rfl, rfl, rfl, by decide +kernel, rfl, by decide +kernel, by decide +kernel⟩
abbrev s_l_word : Stmt := topS 43
abbrev n_l_word : List Str := [Str.ofString "_law_number", Str.ofString "_law_letters"]
theorem sc_l_word : FnScope n_l_word [Str.ofString "_law_number"] (defScope s_l_word) := ⟨rfl, rfl, rfl, by decide +kernel, rfl, by decide +kernel, by decide +kernel⟩
abbrev s_l_leaves : Stmt := topS 46
abbrev n_l_leaves : List Str := [Str.ofString "_law_hand_here", Str.ofString "_law_many", Str.ofString "_law_first", Str.ofString "_law_words", Str.ofString "_law_own", Str.ofString "_law_lines", Str.ofString "_law_known", Str.ofString "_law_due", Str.ofString "_law_word_here", Str.ofString "_law_some", Str.ofString "_law_k"]
theorem sc_l_leaves : FnScope n_l_leaves [Str.ofString "_law_hand_here"] (defScope s_l_leaves) := ⟨rfl, rfl, rfl, by decide +kernel, rfl, by decide +kernel, by decide +kernel⟩
abbrev s_l_pieces : Stmt := topS 44
abbrev n_l_pieces : List Str := [Str.ofString "_law_hand_here", Str.ofString "_law_many", Str.ofString "_law_first", Str.ofString "_law_lines", Str.ofString "_law_k", Str.ofString "_law_due", Str.ofString "_law_at"]
theorem sc_l_pieces : FnScope n_l_pieces [Str.ofString "_law_hand_here"] (defScope s_l_pieces) := ⟨rfl, rfl, rfl, by decide +kernel, rfl, by decide +kernel, by decide +kernel⟩
abbrev s_l_rows : Stmt := topS 45
abbrev n_l_rows : List Str := [Str.ofString "_law_hand_here", Str.ofString "_law_many", Str.ofString "_law_at", Str.ofString "_law_over", Str.ofString "_law_word_here", Str.ofString "_law_rows_here", Str.ofString "_law_due", Str.ofString "_law_text", Str.ofString "_law_behind"]
theorem sc_l_rows : FnScope n_l_rows [Str.ofString "_law_hand_here"] (defScope s_l_rows) := ⟨rfl, rfl, rfl, by decide +kernel, rfl, by decide +kernel, by decide +kernel⟩
abbrev s_law : Stmt := topS 47
abbrev n_law : List Str := [Str.ofString "_law_script", Str.ofString "_law_thing", Str.ofString "_law_k", Str.ofString "_law_hand_here"]
theorem sc_law : FnScope n_law [Str.ofString "_law_script"] (defScope s_law) := ⟨rfl, rfl, rfl, by decide +kernel, rfl, by decide +kernel, by decide +kernel⟩
def tab_PARTS : List (Str × U) := [(Str.ofString "set", (.tup [(.str (Str.ofString "word")), (.str (Str.ofString "number"))])), (Str.ofString "same", (.tup [(.str (Str.ofString "word")), (.str (Str.ofString "word"))])), (Str.ofString "sum", (.tup [(.str (Str.ofString "word")), (.str (Str.ofString "word")), (.str (Str.ofString "word"))])), (Str.ofString "less", (.tup [(.str (Str.ofString "word")), (.str (Str.ofString "word")), (.str (Str.ofString "word"))])), (Str.ofString "hold", (.tup [(.str (Str.ofString "word")), (.str (Str.ofString "word")), (.str (Str.ofString "args"))])), (Str.ofString "call", (.tup [(.str (Str.ofString "word")), (.str (Str.ofString "word")), (.str (Str.ofString "args")), (.str (Str.ofString "leaves"))])), (Str.ofString "last", (.tup [(.str (Str.ofString "word")), (.str (Str.ofString "args")), (.str (Str.ofString "leaves"))])), (Str.ofString "give", (.tup [(.str (Str.ofString "word"))])), (Str.ofString "keep", (.tup [(.str (Str.ofString "word")), (.str (Str.ofString "word"))])), (Str.ofString "kept", (.tup [(.str (Str.ofString "word")), (.str (Str.ofString "word"))])), (Str.ofString "skip", (.tup [(.str (Str.ofString "word")), (.str (Str.ofString "over"))])), (Str.ofString "over", (.tup [(.str (Str.ofString "over"))])), (Str.ofString "on", (.tup [])), (Str.ofString "count", (.tup [])), (Str.ofString "ask", (.tup [(.str (Str.ofString "word")), (.str (Str.ofString "over"))])), (Str.ofString "deed", (.tup [(.str (Str.ofString "word")), (.str (Str.ofString "word"))])), (Str.ofString "done", (.tup [(.str (Str.ofString "word")), (.str (Str.ofString "word"))]))]
def b_l_hand : DS := (sSeq (sSet 2 (bin ix2 (bin add2 (slD (var 0) (soO (var 1)) (soO (bin add2 (var 1) (cst (.int 1))))) (appN szL (acons (cst (.int 0)) anil))) (cst (.int 0)))) (sSeq (sSet 3 (bin mod2 (bin mul2 (bin add2 (bin add2 (bin mod2 (var 2) (cst (.int 2147483647))) (bin mul2 (cst (.int 7919)) (var 1))) (cst (.int 1))) (cst (.int 48271))) (cst (.int 2147483629)))) (sSeq (sRet (refL (szDL (acons (bin mul2 (appN intN (acons (bin ge2 (var 2) (bin pow2 (cst (.int 10)) (cst (.int 18)))) anil)) (var 2)) (acons (var 3) anil))))) sNil)))
def f_l_hand : List U → Store → Rs U := runB 4 2 b_l_hand
def b_l_draw : DS := (sSeq (sIf (tst (bin gt2 (ixR (var 0) (cst (.int 0))) (cst (.int 0)))) (sSeq (sSet 2 (bin mod2 (ixR (var 0) (cst (.int 0))) (var 1))) (sSeq (sIxR (var 0) (cst (.int 0)) (bin fdiv2 (ixR (var 0) (cst (.int 0))) (var 1))) (sSeq (sRet (var 2)) sNil))) sNil) (sSeq (sIxR (var 0) (cst (.int 1)) (bin mod2 (bin add2 (bin mul2 (ixR (var 0) (cst (.int 1))) (cst (.int 48271))) (cst (.int 11))) (cst (.int 2147483647)))) (sSeq (sRet (bin mod2 (bin fdiv2 (bin mod2 (bin mul2 (ixR (var 0) (cst (.int 1))) (ixR (var 0) (cst (.int 1)))) (cst (.int 2147483629))) (cst (.int 64))) (var 1))) sNil)))
def f_l_draw : List U → Store → Rs U := runB 3 2 b_l_draw
def b_Reader____init__ : DS := (sSeq (sFldS [Str.ofString "Reader"] (Str.ofString "most") (var 0) (var 1)) (sSeq (sFldS [Str.ofString "Reader"] (Str.ofString "found") (var 0) (refL (szDL anil))) (sSeq (sFldS [Str.ofString "Reader"] (Str.ofString "begun") (var 0) (cst .non)) (sSeq (sFldS [Str.ofString "Reader"] (Str.ofString "lines") (var 0) (refL (szDL anil))) (sSeq (sFldS [Str.ofString "Reader"] (Str.ofString "known") (var 0) refD0) sNil)))))
def f_Reader____init__ : List U → Store → Rs U := runB 2 2 b_Reader____init__
def b_goes_over : DS := (sSeq (sIf (tst (bin in2 (bin ix2 (var 0) (cst (.int 0))) (appN szT (acons (cst (.str (Str.ofString "skip"))) (acons (cst (.str (Str.ofString "over"))) (acons (cst (.str (Str.ofString "ask"))) anil)))))) (sSeq (sRet (bin ix2 (var 0) (neg1D (cst (.int 1))))) sNil) sNil) (sSeq (sRet (cst (.int 0))) sNil))
def f_goes_over : List U → Store → Rs U := runB 1 1 b_goes_over
def b_is_word : DS := (sSeq (sIf (orT (notT (tst (appN isiN (acons (var 0) (acons (cst (.ty "str")) anil))))) (notT (tst (chain le2 le2 (cst (.int 1)) (appN lenN (acons (var 0) anil)) (cst (.int 8)))))) (sSeq (sRet (cst (.bl false))) sNil) sNil) (sSeq (sRet (appN allN (acons (newL (compD (itemsD (var 0)) [1] (tgN 1) yesT (bin in2 (var 1) (cst (.str (Str.ofString "abcdefghijklmnopqrstuvwxyz")))))) anil))) sNil))
def f_is_word : List U → Store → Rs U := runB 2 1 b_is_word
def b_are_args : DS := (sSeq (sRet (andV (appN isiN (acons (var 0) (acons (cst (.ty "tuple")) anil))) (andV (bin le2 (appN lenN (acons (var 0) anil)) (cst (.int 4))) (appN allN (acons (newL (compD (itemsD (var 0)) [1] (tgN 1) yesT (appU f_is_word (acons (var 1) anil)))) anil))))) sNil)
def f_are_args : List U → Store → Rs U := runB 2 1 b_are_args
def t1_are_leaves : DS := (sSeq (sIf (orT (notT (tst (appU f_is_word (acons (var 2) anil)))) (andT (tst (bin gt2 (var 1) (cst (.int 0)))) (tst (bin le2 (var 2) (bin ix2 (var 0) (bin sub2 (var 1) (cst (.int 1)))))))) (sSeq (sRet (cst (.bl false))) sNil) sNil) sNil)
def b_are_leaves : DS := (sSeq (sIf (orT (notT (tst (appN isiN (acons (var 0) (acons (cst (.ty "tuple")) anil))))) (tst (bin gt2 (appN lenN (acons (var 0) anil)) (cst (.int 8))))) (sSeq (sRet (cst (.bl false))) sNil) sNil) (sSeq (sFor (itA enumerateN (acons (var 0) anil)) (tgT [1, 2]) t1_are_leaves) (sSeq (sRet (cst (.bl true))) sNil)))
def f_are_leaves : List U → Store → Rs U := runB 3 1 b_are_leaves
def b_is_whole : DS := (sSeq (sRet (andV (appN isiN (acons (var 0) (acons (cst (.ty "int")) anil))) (notV (appN isiN (acons (var 0) (acons (cst (.ty "bool")) anil)))))) sNil)
def f_is_whole : List U → Store → Rs U := runB 1 1 b_is_whole
def b_is_number : DS := (sSeq (sRet (andV (appU f_is_whole (acons (var 0) anil)) (bin le2 (appN absN (acons (var 0) anil)) (cst (.int 1000000000000000000))))) sNil)
def f_is_number : List U → Store → Rs U := runB 1 1 b_is_number
def b_is_part : DS := (sSeq (sIf (tst (bin eq2 (var 0) (cst (.str (Str.ofString "word"))))) (sSeq (sRet (appU f_is_word (acons (var 1) anil))) sNil) sNil) (sSeq (sIf (tst (bin eq2 (var 0) (cst (.str (Str.ofString "number"))))) (sSeq (sRet (appU f_is_number (acons (var 1) anil))) sNil) sNil) (sSeq (sIf (tst (bin eq2 (var 0) (cst (.str (Str.ofString "args"))))) (sSeq (sRet (appU f_are_args (acons (var 1) anil))) sNil) sNil) (sSeq (sIf (tst (bin eq2 (var 0) (cst (.str (Str.ofString "leaves"))))) (sSeq (sRet (appU f_are_leaves (acons (var 1) anil))) sNil) sNil) (sSeq (sRet (andV (appU f_is_whole (acons (var 1) anil)) (bin gt2 (var 1) (cst (.int 0))))) sNil)))))
def f_is_part : List U → Store → Rs U := runB 2 2 b_is_part
def b_is_row : DS := (sSeq (sIf (orT (notT (tst (appN isiN (acons (var 0) (acons (cst (.ty "tuple")) anil))))) (orT (tst (bin eq2 (var 0) (appN szT anil))) (notT (tst (appN isiN (acons (bin ix2 (var 0) (cst (.int 0))) (acons (cst (.ty "str")) anil))))))) (sSeq (sRet (cst (.bl false))) sNil) sNil) (sSeq (sIf (orT (tst (ap1 (tabNot tab_PARTS) (bin ix2 (var 0) (cst (.int 0))))) (tst (bin ne2 (appN lenN (acons (var 0) anil)) (bin add2 (appN lenN (acons (ap1 (tabGet tab_PARTS) (bin ix2 (var 0) (cst (.int 0)))) anil)) (cst (.int 1)))))) (sSeq (sRet (cst (.bl false))) sNil) sNil) (sSeq (sRet (appN allN (acons (newL (compD (itA zipN (acons (ap1 (tabGet tab_PARTS) (bin ix2 (var 0) (cst (.int 0)))) (acons (slD (var 0) (soO (cst (.int 1))) noO) anil))) [1, 2] (tgT [1, 2]) yesT (appU f_is_part (acons (var 1) (acons (var 2) anil))))) anil))) sNil)))
def f_is_row : List U → Store → Rs U := runB 3 1 b_is_row
def t1_bad_row : DS := (sSeq (sIf (orT (notT (tst (appU f_is_row (acons (var 2) anil)))) (tst (bin gt2 (bin add2 (bin add2 (var 1) (cst (.int 1))) (appU f_goes_over (acons (var 2) anil))) (appN lenN (acons (var 0) anil))))) (sSeq (sRet (var 1)) sNil) sNil) sNil)
def b_bad_row : DS := (sSeq (sFor (itA enumerateN (acons (var 0) anil)) (tgT [1, 2]) t1_bad_row) (sSeq (sRet (cst .non)) sNil))
def f_bad_row : List U → Store → Rs U := runB 3 1 b_bad_row
def b_Reader__end : DS := (sSeq (sIf (tst (bin isnot2 (fldD [Str.ofString "Reader"] (Str.ofString "begun") (var 0)) (cst .non))) (sSeq (sIf (tst (nilG false (fldD [Str.ofString "Reader"] (Str.ofString "lines") (var 0)))) (sSeq (sRaise (Str.ofString "NoText") [Str.ofString "row"] (acons (var 1) anil)) sNil) sNil) (sSeq (sSet 2 (appV f_bad_row (acons (fldD [Str.ofString "Reader"] (Str.ofString "lines") (var 0)) anil))) (sSeq (sIf (tst (bin isnot2 (var 2) (cst .non))) (sSeq (sRaise (Str.ofString "NoText") [Str.ofString "row"] (acons (bin add2 (bin sub2 (var 1) (lenR (fldD [Str.ofString "Reader"] (Str.ofString "lines") (var 0)))) (var 2)) anil)) sNil) sNil) (sSeq (sAppR (fldD [Str.ofString "Reader"] (Str.ofString "found") (var 0)) (bin add2 (fldD [Str.ofString "Reader"] (Str.ofString "begun") (var 0)) (appN szT (acons (tupR (fldD [Str.ofString "Reader"] (Str.ofString "lines") (var 0))) anil)))) (sSeq (sFldS [Str.ofString "Reader"] (Str.ofString "lines") (var 0) (refL (szDL anil))) sNil))))) sNil) sNil)
def f_Reader__end : List U → Store → Rs U := runB 3 2 b_Reader__end
def t1_Reader__learn : DS := (sSeq (sDPut (fldD [Str.ofString "Reader"] (Str.ofString "known") (var 0)) (var 3) (cst (.bl true))) sNil)
def b_Reader__learn : DS := (sSeq (sFor (itemsD (var 1)) (tgN 3) t1_Reader__learn) (sSeq (sIf (tst (bin gt2 (lenDR (fldD [Str.ofString "Reader"] (Str.ofString "known") (var 0))) (cst (.int 8)))) (sSeq (sRaise (Str.ofString "NoText") [Str.ofString "row"] (acons (var 2) anil)) sNil) sNil) sNil))
def f_Reader__learn : List U → Store → Rs U := runB 4 3 b_Reader__learn
def b_is_head : DS := (sSeq (sIf (orT (notT (tst (appN isiN (acons (var 0) (acons (cst (.ty "tuple")) anil))))) (tst (bin ne2 (appN lenN (acons (var 0) anil)) (cst (.int 4))))) (sSeq (sRet (cst (.bl false))) sNil) sNil) (sSeq (sUnp (tgA [1, 2, 3, 4]) (var 0)) (sSeq (sIf (orT (notT (tst (appU f_is_word (acons (var 1) anil)))) (orT (notT (tst (appU f_are_leaves (acons (var 2) anil)))) (orT (notT (tst (appU f_are_args (acons (var 3) anil)))) (tst (bin ne2 (ap1 lenSet1 (var 3)) (appN lenN (acons (var 3) anil))))))) (sSeq (sRet (cst (.bl false))) sNil) sNil) (sSeq (sRet (andV (appN isiN (acons (var 4) (acons (cst (.ty "tuple")) anil))) (chain le2 le2 (cst (.int 1)) (appN lenN (acons (var 4) anil)) (cst (.int 60))))) sNil))))
def f_is_head : List U → Store → Rs U := runB 5 1 b_is_head
def b_parted : DS := (sSeq (sIf (tst (bin ne2 (cntD (var 0) (cst (.str (Str.ofString "!")))) (cst (.int 1)))) (sSeq (sRet (cst .non)) sNil) sNil) (sSeq (sSet 1 (idxD (var 0) (cst (.str (Str.ofString "!"))))) (sSeq (sRet (appN szT (acons (appN tupN (acons (slD (var 0) noO (soO (var 1))) anil)) (acons (appN tupN (acons (slD (var 0) (soO (bin add2 (var 1) (cst (.int 1)))) noO) anil)) anil)))) sNil)))
def f_parted : List U → Store → Rs U := runB 2 1 b_parted
def b_head_of : DS := (sSeq (sIf (orT (tst (bin lt2 (appN lenN (acons (var 0) anil)) (cst (.int 2)))) (tst (bin ne2 (bin ix2 (var 0) (cst (.int 0))) (cst (.str (Str.ofString "piece")))))) (sSeq (sRet (cst .non)) sNil) sNil) (sSeq (sSet 1 (appU f_parted (acons (slD (var 0) (soO (cst (.int 2))) noO) anil))) (sSeq (sIf (orT (tst (bin is2 (var 1) (cst .non))) (notT (tst (appU f_is_head (acons (appN szT (acons (bin ix2 (var 0) (cst (.int 1))) (acons (bin ix2 (var 1) (cst (.int 1))) (acons (bin ix2 (var 1) (cst (.int 0))) (acons (appN szT (acons (appN szT (acons (cst (.str (Str.ofString "on"))) anil)) anil)) anil))))) anil))))) (sSeq (sRet (cst .non)) sNil) sNil) (sSeq (sRet (appN szT (acons (bin ix2 (var 0) (cst (.int 1))) (acons (bin ix2 (var 1) (cst (.int 1))) (acons (bin ix2 (var 1) (cst (.int 0))) anil))))) sNil))))
def f_head_of : List U → Store → Rs U := runB 2 1 b_head_of
def b_Reader__begin : DS := (sSeq (sExpr (mtD [(Str.ofString "Reader", f_Reader__end)] (Str.ofString "end") (var 0) (acons (var 2) anil))) (sSeq (sFldS [Str.ofString "Reader"] (Str.ofString "begun") (var 0) (appU f_head_of (acons (var 1) anil))) (sSeq (sIf (orT (tst (bin is2 (fldD [Str.ofString "Reader"] (Str.ofString "begun") (var 0)) (cst .non))) (orT (tst (bin in2 (bin ix2 (fldD [Str.ofString "Reader"] (Str.ofString "begun") (var 0)) (cst (.int 0))) (newL (compV (fldD [Str.ofString "Reader"] (Str.ofString "found") (var 0)) [3] (tgN 3) yesT (bin ix2 (var 3) (cst (.int 0))))))) (tst (bin eq2 (lenR (fldD [Str.ofString "Reader"] (Str.ofString "found") (var 0))) (fldD [Str.ofString "Reader"] (Str.ofString "most") (var 0)))))) (sSeq (sRaise (Str.ofString "NoText") [Str.ofString "row"] (acons (var 2) anil)) sNil) sNil) (sSeq (sExpr (mtD [(Str.ofString "Reader", f_Reader__learn)] (Str.ofString "learn") (var 0) (acons (bin ix2 (fldD [Str.ofString "Reader"] (Str.ofString "begun") (var 0)) (cst (.int 1))) (acons (var 2) anil)))) sNil))))
def f_Reader__begin : List U → Store → Rs U := runB 4 3 b_Reader__begin
def b_leaves_in : DS := (sSeq (sIf (tst (bin in2 (bin ix2 (var 0) (cst (.int 0))) (appN szT (acons (cst (.str (Str.ofString "call"))) (acons (cst (.str (Str.ofString "last"))) anil))))) (sSeq (sRet (bin ix2 (var 0) (neg1D (cst (.int 1))))) sNil) sNil) (sSeq (sIf (tst (bin in2 (bin ix2 (var 0) (cst (.int 0))) (appN szT (acons (cst (.str (Str.ofString "ask"))) (acons (cst (.str (Str.ofString "deed"))) (acons (cst (.str (Str.ofString "done"))) anil)))))) (sSeq (sRet (appN szT (acons (bin ix2 (var 0) (cst (.int 1))) anil))) sNil) sNil) (sSeq (sRet (appN szT anil)) sNil)))
def f_leaves_in : List U → Store → Rs U := runB 1 1 b_leaves_in
def t1_number_of : DS := (sSeq (sIf (tst (bin nin2 (var 1) (cst (.str (Str.ofString "0123456789"))))) (sSeq (sRet (cst .non)) sNil) sNil) sNil)
def b_number_of : DS := (sSeq (sIf (orT (tst (bin eq2 (var 0) (cst (.str (Str.ofString ""))))) (andT (tst (bin eq2 (bin ix2 (var 0) (cst (.int 0))) (cst (.str (Str.ofString "0"))))) (tst (bin ne2 (var 0) (cst (.str (Str.ofString "0"))))))) (sSeq (sRet (cst .non)) sNil) sNil) (sSeq (sFor (itemsD (var 0)) (tgN 1) t1_number_of) (sSeq (sIf (tst (bin gt2 (appN lenN (acons (var 0) anil)) (cst (.int 60)))) (sSeq (sRet (cst (.int 1000000000000000000000000000000000000000000000000000000000000))) sNil) sNil) (sSeq (sRet (appN intAN (acons (var 0) anil))) sNil))))
def f_number_of : List U → Store → Rs U := runB 2 1 b_number_of
def b_signed : DS := (sSeq (sIf (andT (tst (bin eq2 (slD (var 0) noO (soO (cst (.int 1)))) (cst (.str (Str.ofString "-"))))) (tst (bin ne2 (var 0) (cst (.str (Str.ofString "-0")))))) (sSeq (sSet 1 (appU f_number_of (acons (slD (var 0) (soO (cst (.int 1))) noO) anil))) (sSeq (sIf (tst (bin is2 (var 1) (cst .non))) (sSeq (sRet (cst .non)) sNil) sNil) (sSeq (sRet (bin sub2 (cst (.int 0)) (var 1))) sNil))) sNil) (sSeq (sRet (appU f_number_of (acons (var 0) anil))) sNil))
def f_signed : List U → Store → Rs U := runB 2 1 b_signed
def b_part_of : DS := (sSeq (sIf (tst (bin eq2 (var 0) (cst (.str (Str.ofString "number"))))) (sSeq (sRet (appU f_signed (acons (var 1) anil))) sNil) sNil) (sSeq (sIf (tst (bin eq2 (var 0) (cst (.str (Str.ofString "over"))))) (sSeq (sRet (appU f_number_of (acons (var 1) anil))) sNil) sNil) (sSeq (sRet (var 1)) sNil)))
def f_part_of : List U → Store → Rs U := runB 2 2 b_part_of
def t1_row_of : DS := (sSeq (sIf (andT (tst (bin eq2 (var 4) (cst (.str (Str.ofString "args"))))) (tst (bin eq2 (bin ix2 (var 1) (neg1D (cst (.int 1)))) (cst (.str (Str.ofString "leaves")))))) (sSeq (sSet 6 (appV f_parted (acons (var 3) anil))) (sSeq (sIf (tst (bin is2 (var 6) (cst .non))) (sSeq (sRet (cst .non)) sNil) sNil) (sSeq (sExt 2 (var 6)) (sSeq (sSet 3 (refL (szDL anil))) sNil)))) (sSeq (sIf (tst (bin eq2 (var 4) (cst (.str (Str.ofString "args"))))) (sSeq (sApp 2 (tupR (var 3))) (sSeq (sSet 3 (refL (szDL anil))) sNil)) (sSeq (sIf (tst (bin ne2 (var 4) (cst (.str (Str.ofString "leaves"))))) (sSeq (sIf (tst (nilG false (var 3))) (sSeq (sRet (cst .non)) sNil) sNil) (sSeq (sApp 2 (appU f_part_of (acons (var 4) (acons (popR (var 3) (cst (.int 0))) anil)))) sNil)) sNil) sNil)) sNil)) sNil)
def b_row_of : DS := (sSeq (sSet 1 (ap1 (tabGet0 tab_PARTS) (bin ix2 (var 0) (cst (.int 0))))) (sSeq (sIf (tst (bin is2 (var 1) (cst .non))) (sSeq (sRet (cst .non)) sNil) sNil) (sSeq (sOwn 2 (szDL anil)) (sSeq (sSet 3 (refL (slL (var 0) (soO (cst (.int 1))) noO))) (sSeq (sFor (itemsD (var 1)) (tgN 4) t1_row_of) (sSeq (frzS 2 (sSet 5 (bin add2 (appN szT (acons (bin ix2 (var 0) (cst (.int 0))) anil)) (appN tupN (acons (var 2) anil))))) (sSeq (sIf (orT (tst (nilG true (var 3))) (notT (tst (appU f_is_row (acons (var 5) anil))))) (sSeq (sRet (cst .non)) sNil) sNil) (sSeq (sRet (var 5)) sNil))))))))
def f_row_of : List U → Store → Rs U := runB 7 1 b_row_of
def b_Reader__take : DS := (sSeq (sSet 3 (newL (splitL (var 1) (cst (.str (Str.ofString " ")))))) (sSeq (sIf (tst (bin eq2 (bin ix2 (var 3) (cst (.int 0))) (cst (.str (Str.ofString "piece"))))) (sSeq (sExpr (mtD [(Str.ofString "Reader", f_Reader__begin)] (Str.ofString "begin") (var 0) (acons (var 3) (acons (var 2) anil)))) (sSeq sRetN sNil)) sNil) (sSeq (sSet 4 (appU f_row_of (acons (var 3) anil))) (sSeq (sIf (orT (tst (bin is2 (fldD [Str.ofString "Reader"] (Str.ofString "begun") (var 0)) (cst .non))) (orT (tst (bin is2 (var 4) (cst .non))) (tst (bin eq2 (lenR (fldD [Str.ofString "Reader"] (Str.ofString "lines") (var 0))) (cst (.int 60)))))) (sSeq (sRaise (Str.ofString "NoText") [Str.ofString "row"] (acons (var 2) anil)) sNil) sNil) (sSeq (sExpr (mtD [(Str.ofString "Reader", f_Reader__learn)] (Str.ofString "learn") (var 0) (acons (appU f_leaves_in (acons (var 4) anil)) (acons (var 2) anil)))) (sSeq (sAppR (fldD [Str.ofString "Reader"] (Str.ofString "lines") (var 0)) (var 4)) sNil))))))
def f_Reader__take : List U → Store → Rs U := runB 5 3 b_Reader__take
def t1_read_pieces : DS := (sSeq (sExpr (mtD [(Str.ofString "Reader", f_Reader__take)] (Str.ofString "take") (var 2) (acons (var 5) (acons (var 4) anil)))) sNil)
def b_read_pieces : DS := (sSeq (sIf (notT (tst (appN isiN (acons (var 0) (acons (cst (.ty "str")) anil))))) (sSeq (sRaise (Str.ofString "NoText") [Str.ofString "row"] (acons (cst (.int 0)) anil)) sNil) sNil) (sSeq (sSet 2 (mkO (Str.ofString "Reader") f_Reader____init__ (acons (var 1) anil))) (sSeq (sSet 3 (newL (splitL (var 0) (cst (.str (Str.ofString "\n")))))) (sSeq (sFor (itA enumerateN (acons (var 3) anil)) (tgT [4, 5]) t1_read_pieces) (sSeq (sExpr (mtD [(Str.ofString "Reader", f_Reader__end)] (Str.ofString "end") (var 2) (acons (appN lenN (acons (var 3) anil)) anil))) (sSeq (sRet (fldD [Str.ofString "Reader"] (Str.ofString "found") (var 2))) sNil))))))
def f_read_pieces : List U → Store → Rs U := runB 6 2 b_read_pieces
def b_read_book : DS := (sSeq (sRet (appU f_read_pieces (acons (var 0) (acons (cst (.int 12)) anil)))) sNil)
def f_read_book : List U → Store → Rs U := runB 1 1 b_read_book
def b_l_told : DS := (sSeq (sSet 1 (cst .non)) (sSeq (sSet 2 (cst .non)) (sSeq (sTryF [(Str.ofString "NoText", true)] 4 2 (Str.ofString "row") (sSeq (sSet 1 (appU f_read_book (acons (var 0) anil))) sNil)) (sSeq (sIf (tst (bin is2 (var 1) (cst .non))) (sSeq (sRet (var 2)) sNil) sNil) (sSeq (sRet (newL (compV (var 1) [3] (tgN 3) yesT (appN lenN (acons (bin ix2 (var 3) (cst (.int 3))) anil))))) sNil)))))
def f_l_told : List U → Store → Rs U := runB 5 1 b_l_told
def b_l_word : DS := (sSeq (sSet 1 (cst (.str (Str.ofString "abcdefghijklmnopqrstuvwxyz")))) (sSeq (sRet (bin add2 (bin ix2 (var 1) (bin mod2 (var 0) (cst (.int 26)))) (bin mulS2 (bin ix2 (var 1) (bin mod2 (bin fdiv2 (var 0) (cst (.int 26))) (cst (.int 26)))) (bin mod2 (var 0) (cst (.int 7)))))) sNil))
def f_l_word : List U → Store → Rs U := runB 2 1 b_l_word
def t1_l_leaves : DS := (sSeq (sOwn 9 (szDL (acons (bin add2 (bin add2 (cst (.str (Str.ofString "ask "))) (var 8)) (cst (.str (Str.ofString " 1")))) (acons (bin add2 (bin add2 (cst (.str (Str.ofString "deed "))) (var 8)) (cst (.str (Str.ofString " x")))) (acons (bin add2 (bin add2 (cst (.str (Str.ofString "done "))) (var 8)) (cst (.str (Str.ofString " x")))) (acons (bin add2 (cst (.str (Str.ofString "call x y ! "))) (var 8)) anil)))))) (sSeq (sApp 9 (bin add2 (cst (.str (Str.ofString "last x ! "))) (var 8))) (sSeq (frzS 9 (sApp 5 (bin ix2 (var 9) (appU f_l_draw (acons (var 0) (acons (cst (.int 5)) anil)))))) (sSeq (sSet 6 (bin add2 (var 6) (appN intN (acons (bin nin2 (var 8) (var 4)) anil)))) (sSeq (sIf (andT (tst (bin eq2 (var 6) (cst (.int 9)))) (tst (bin is2 (var 7) (cst .non)))) (sSeq (sSet 7 (bin sub2 (lenP 5) (cst (.int 1)))) sNil) sNil) sNil)))))
def b_l_leaves : DS := (sSeq (sSet 1 (bin add2 (cst (.int 7)) (appU f_l_draw (acons (var 0) (acons (cst (.int 4)) anil))))) (sSeq (sSet 2 (appU f_l_draw (acons (var 0) (acons (cst (.int 600)) anil)))) (sSeq (sSet 3 (newL (compD (itA rng1 (acons (var 1) anil)) [10] (tgN 10) yesT (appU f_l_word (acons (bin add2 (var 2) (var 10)) anil))))) (sSeq (sSet 4 (newL (itE sortTxt (slD (var 3) noO (soO (appU f_l_draw (acons (var 0) (acons (cst (.int 5)) anil)))))))) (sSeq (sOwn 5 (szDL (acons (bin add2 (cst (.str (Str.ofString "piece a ! "))) (joinD (cst (.str (Str.ofString " "))) (var 4))) anil))) (sSeq (sIf (tst (bin eq2 (var 4) (appN szL anil))) (sSeq (sOwn 5 (szDL (acons (cst (.str (Str.ofString "piece a !"))) anil))) sNil) sNil) (sSeq (sSet 6 (appN lenN (acons (var 4) anil))) (sSeq (sSet 7 (cst .non)) (sSeq (sFor (itemsD (var 3)) (tgN 8) t1_l_leaves) (sSeq (sApp 5 (cst (.str (Str.ofString "on")))) (sSeq (sIf (tst (bin is2 (var 7) (cst .non))) (sSeq (sSet 7 (appN szL (acons (bin sub2 (lenP 5) (cst (.int 1))) anil))) sNil) sNil) (sSeq (frzS 5 (sRet (bin eq2 (appU f_l_told (acons (joinD (cst (.str (Str.ofString "\n"))) (var 5)) anil)) (var 7)))) sNil))))))))))))
def f_l_leaves : List U → Store → Rs U := runB 11 1 b_l_leaves
def t1_l_pieces : DS := (sSeq (frzS 3 (sOwn 3 (catL (var 3) (appN szL (acons (bin add2 (bin add2 (cst (.str (Str.ofString "piece "))) (appU f_l_word (acons (bin add2 (var 2) (var 4)) anil))) (cst (.str (Str.ofString " !")))) (acons (cst (.str (Str.ofString "on"))) anil)))))) sNil)
def b_l_pieces : DS := (sSeq (sSet 1 (bin add2 (cst (.int 1)) (appU f_l_draw (acons (var 0) (acons (cst (.int 13)) anil))))) (sSeq (sSet 2 (appU f_l_draw (acons (var 0) (acons (cst (.int 600)) anil)))) (sSeq (sOwn 3 (szDL anil)) (sSeq (sFor (itA rng1 (acons (var 1) anil)) (tgN 4) t1_l_pieces) (sSeq (sSet 5 (bin ix2 (appN szL (acons (bin mul2 (appN szL (acons (cst (.int 1)) anil)) (var 1)) (acons (cst (.int 24)) anil))) (appN intN (acons (bin eq2 (var 1) (cst (.int 13))) anil)))) (sSeq (sIf (andT (tst (bin eq2 (appU f_l_draw (acons (var 0) (acons (cst (.int 3)) anil))) (cst (.int 0)))) (tst (bin gt2 (var 1) (cst (.int 1))))) (sSeq (sSet 6 (bin add2 (cst (.int 1)) (appU f_l_draw (acons (var 0) (acons (bin sub2 (var 1) (cst (.int 1))) anil))))) (sSeq (sIxO 3 (bin mul2 (cst (.int 2)) (var 6)) (binP ix2 3 (bin mul2 (cst (.int 2)) (appU f_l_draw (acons (var 0) (acons (var 6) anil)))))) (sSeq (sSet 5 (appN minN (acons (cst (.int 24)) (acons (bin mul2 (cst (.int 2)) (var 6)) anil)))) sNil))) sNil) (sSeq (frzS 3 (sRet (bin eq2 (appU f_l_told (acons (joinD (cst (.str (Str.ofString "\n"))) (var 3)) anil)) (var 5)))) sNil)))))))
def f_l_pieces : List U → Store → Rs U := runB 7 1 b_l_pieces
def b_l_rows : DS := (sSeq (sSet 1 (bin add2 (cst (.int 58)) (appU f_l_draw (acons (var 0) (acons (cst (.int 5)) anil))))) (sSeq (sSet 2 (appU f_l_draw (acons (var 0) (acons (var 1) anil)))) (sSeq (sSet 3 (bin ix2 (appN szL (acons (bin sub2 (bin sub2 (var 1) (cst (.int 1))) (var 2)) (acons (bin sub2 (var 1) (var 2)) (acons (bin pow2 (cst (.int 10)) (cst (.int 30))) anil)))) (appU f_l_draw (acons (var 0) (acons (cst (.int 3)) anil))))) (sSeq (sSet 4 (bin ix2 (appN szL (acons (cst (.str (Str.ofString "over "))) (acons (cst (.str (Str.ofString "skip a "))) (acons (cst (.str (Str.ofString "ask b "))) anil)))) (appU f_l_draw (acons (var 0) (acons (cst (.int 3)) anil))))) (sSeq (sOwn 5 (mulL (appN szL (acons (cst (.str (Str.ofString "count"))) anil)) (var 1))) (sSeq (sSet 6 (bin ix2 (appN szL (acons (appN szL (acons (var 1) anil)) (acons (cst (.int 61)) anil))) (appN intN (acons (bin gt2 (var 1) (cst (.int 60))) anil)))) (sSeq (sIf (tst (bin gt2 (var 3) (cst (.int 0)))) (sSeq (sIxO 5 (var 2) (bin add2 (var 4) (appN strN (acons (var 3) anil)))) (sSeq (sIf (andT (tst (bin lt2 (var 1) (cst (.int 61)))) (tst (bin ge2 (var 3) (bin sub2 (var 1) (var 2))))) (sSeq (sSet 6 (bin add2 (cst (.int 1)) (var 2))) sNil) sNil) sNil)) sNil) (sSeq (frzS 5 (sSet 7 (joinD (cst (.str (Str.ofString "\n"))) (bin add2 (appN szL (acons (cst (.str (Str.ofString "piece a !"))) anil)) (var 5))))) (sSeq (sIf (tst (bin ne2 (appU f_l_told (acons (var 7) anil)) (var 6))) (sSeq (sRet (cst (.bl false))) sNil) sNil) (sSeq (sIf (tst (appN isiN (acons (var 6) (acons (cst (.ty "list")) anil)))) (sSeq (sSet 6 (bin add2 (var 6) (appN szL (acons (cst (.int 1)) anil)))) (sSeq (sRet (andV (bin eq2 (appU f_l_told (acons (bin add2 (var 7) (cst (.str (Str.ofString "\npiece b !\non")))) anil)) (var 6)) (bin eq2 (appU f_l_told (acons (bin add2 (var 7) (cst (.str (Str.ofString "\npiece b !")))) anil)) (bin add2 (var 1) (cst (.int 2)))))) sNil)) sNil) (sSeq (sSet 8 (bin ix2 (appN szL (acons (bin add2 (var 1) (cst (.int 1))) (acons (cst (.int 61)) anil))) (appN intN (acons (bin gt2 (var 1) (cst (.int 60))) anil)))) (sSeq (sRet (andV (bin eq2 (appU f_l_told (acons (bin add2 (var 7) (cst (.str (Str.ofString "\npiece a !")))) anil)) (var 6)) (bin eq2 (appU f_l_told (acons (bin add2 (var 7) (cst (.str (Str.ofString "\nnone")))) anil)) (var 8)))) sNil))))))))))))
def f_l_rows : List U → Store → Rs U := runB 9 1 b_l_rows
def t1_law : DS := (sSeq (sIf (tst (bin ne2 (appU f_l_told (acons (var 1) anil)) (cst (.int 0)))) (sSeq (sRet (cst (.bl false))) sNil) sNil) sNil)
def t2_law : DS := (sSeq (sSet 3 (appU f_l_hand (acons (var 0) (acons (var 2) anil)))) (sSeq (sIf (orT (notT (tst (appU f_l_pieces (acons (var 3) anil)))) (orT (notT (tst (appU f_l_rows (acons (var 3) anil)))) (notT (tst (appU f_l_leaves (acons (var 3) anil)))))) (sSeq (sRet (cst (.bl false))) sNil) sNil) sNil))
def b_law : DS := (sSeq (sFor (itemsD (appN szL (acons (cst .non) (acons (cst (.int 5)) (acons (cst (.bl true)) (acons (appN szL anil) (acons (cst (.dct [] [])) (acons (appN szT (acons (cst (.str (Str.ofString "piece a !"))) (acons (cst (.str (Str.ofString "on"))) anil))) (acons (appN szL (acons (cst (.str (Str.ofString "piece a !"))) (acons (cst (.str (Str.ofString "on"))) anil))) (acons (cst (.str (Str.ofString ""))) (acons (cst (.str (Str.ofString "\n"))) (acons (cst (.str (Str.ofString "on"))) (acons (cst (.str (Str.ofString "piece a"))) (acons (cst (.str (Str.ofString " "))) anil)))))))))))))) (tgN 1) t1_law) (sSeq (sIf (orT (tst (bin ne2 (appU f_l_told (acons (cst (.str (Str.ofString "piece a !"))) anil)) (cst (.int 1)))) (orT (tst (bin ne2 (appU f_l_told (acons (cst (.str (Str.ofString "piece a !\n"))) anil)) (cst (.int 1)))) (tst (bin ne2 (appU f_l_told (acons (cst (.str (Str.ofString "piece a !\npiece b !\non"))) anil)) (cst (.int 1)))))) (sSeq (sRet (cst (.bl false))) sNil) sNil) (sSeq (sIf (orT (tst (bin ne2 (appU f_l_told (acons (cst (.str (Str.ofString "piece a !\non\n"))) anil)) (cst (.int 2)))) (tst (bin ne2 (appU f_l_told (acons (cst (.str (Str.ofString "piece a !\non\npiece b !"))) anil)) (cst (.int 3))))) (sSeq (sRet (cst (.bl false))) sNil) sNil) (sSeq (sFor (itA rng1 (acons (appN maxN (acons (cst (.int 4)) (acons (appN minN (acons (appN lenN (acons (var 0) anil)) (acons (cst (.int 20)) anil))) anil))) anil)) (tgN 2) t2_law) (sSeq (sRet (cst (.bl true))) sNil)))))
def f_law : List U → Store → Rs U := runB 4 1 b_law
abbrev si_NoText : Stmt := inClass (topS 2) 0
theorem sci_NoText : FnScope [Str.ofString "self", Str.ofString "row"] [Str.ofString "self", Str.ofString "row"] (defScope si_NoText) := ⟨rfl, rfl, rfl, by decide +kernel, rfl, by decide +kernel, by decide +kernel⟩
structure Tx (K : PySem.W.Frag) (w : World) (mg : Str → Option Value) (C_CallersError C_NoText C_Reader : Addr) : Prop where
  oc_Reader : clsAt K "Reader" = some C_Reader
  ol_Reader : Cls K C_Reader
  on_Reader_begun : NoAttr K C_Reader "begun"
  on_Reader_found : NoAttr K C_Reader "found"
  on_Reader_known : NoAttr K C_Reader "known"
  on_Reader_lines : NoAttr K C_Reader "lines"
  on_Reader_most : NoAttr K C_Reader "most"
  k_CallersError : ClsF K mg "CallersError" C_CallersError
  k_NoText : ClsF K mg "NoText" C_NoText
  e_NoText : ExcC K C_NoText
  g_NoText_row : PySem.W.findIn K (.ref C_NoText) "row" = some none
  s_NoText_NoText : PySem.W.subIn K (.ref C_NoText) (.ref C_NoText) = some true
  b_abs : mg "abs" = none
  b_all : mg "all" = none
  b_bool : mg "bool" = none
  b_enumerate : mg "enumerate" = none
  b_int : mg "int" = none
  b_isinstance : mg "isinstance" = none
  b_len : mg "len" = none
  b_list : mg "list" = none
  b_max : mg "max" = none
  b_min : mg "min" = none
  b_range : mg "range" = none
  b_set : mg "set" = none
  b_sorted : mg "sorted" = none
  b_str : mg "str" = none
  b_tuple : mg "tuple" = none
  b_zip : mg "zip" = none
  c_BEYOND : ∃ t, mg "BEYOND" = some (Value.int 1000000000000000000000000000000000000000000000000000000000000 t)
  c_FIGURES : ∃ t, mg "FIGURES" = some (Value.str (Str.ofString "0123456789") t)
  c_GREATEST : ∃ t, mg "GREATEST" = some (Value.int 1000000000000000000 t)
  c_LETTERS : ∃ t, mg "LETTERS" = some (Value.str (Str.ofString "abcdefghijklmnopqrstuvwxyz") t)
  c_LONGEST : ∃ t, mg "LONGEST" = some (Value.int 8 t)
  c_MOST : ∃ t, mg "MOST" = some (Value.int 8 t)
  c_MOST_ARGS : ∃ t, mg "MOST_ARGS" = some (Value.int 4 t)
  c_MOST_FIGURES : ∃ t, mg "MOST_FIGURES" = some (Value.int 60 t)
  c_MOST_LEAVES : ∃ t, mg "MOST_LEAVES" = some (Value.int 8 t)
  c_MOST_PIECES : ∃ t, mg "MOST_PIECES" = some (Value.int 12 t)
  c_MOST_ROWS : ∃ t, mg "MOST_ROWS" = some (Value.int 60 t)
  t_PARTS : KTab K w mg "PARTS" tab_PARTS
section
variable {P : Program} {w : World} {K : PySem.W.Frag} {mg : Str → Option Value} {base : Heap} {C_CallersError C_NoText C_Reader : Addr}
theorem oki_NoText (T : Tx K w mg C_CallersError C_NoText C_Reader) (O : OexC K C_NoText) (BF : BaseF K C_CallersError) {f : Addr} {fd : FuncData} (F : Fun K "__init__" "NoText.__init__" si_NoText f fd) : FnOk P w K mg base (L2.CX P w) 1 f fd [Str.ofString "self", Str.ofString "row"] (spI C_NoText [Str.ofString "row"]) :=
  F.okX sci_NoText (fun vs H Q E h => h.1) fun cdv A outer sh H vs Q E hr h => ⟨_, pss_cons (ps_expr (pe_baseI (by rfl) T.k_CallersError.mg BF.g1 T.k_CallersError.ty BF.g3 BF.vV (pa_cons (pv 0) (pa_cons (pe_str (x := Str.ofString "no text of a book")) pa_nil)))) (pss_cons (ps_ost (pv 0) (pv 1)) pss_nil), init1_read O T.g_NoText_row rfl h⟩
set_option maxHeartbeats 4000000 in
theorem ok_l_hand (T : Tx K w mg C_CallersError C_NoText C_Reader)   {f : Addr} {fd : FuncData} (F : Fun K "_law_hand" "_law_hand" s_l_hand f fd) : FnOk P w K mg base (L2.CX P w) 1 f fd [Str.ofString "_law_script", Str.ofString "_law_k"] (spD K (XSd K) 2 (runB 4 2 b_l_hand)) :=
  fn_d F sc_l_hand fun cdv A outer sh H E hr => by
  have tk : Takes (cxOf (L2.CX P w) P w K mg base n_l_hand "_law_hand" (defScope s_l_hand) f cdv A outer sh H E) (fun cls d _ H => E cls d H) := takes_of rfl rfl rfl rfl
  have hp : PassesOwn (model P w) (A.deeper (PyProof.Rows.envOfC "_law_hand" (defScope s_l_hand) sh.heap.objs.size f cdv)) (PyProof.Rows.envOfC "_law_hand" (defScope s_l_hand) sh.heap.objs.size f cdv) (cxOf (L2.CX P w) P w K mg base n_l_hand "_law_hand" (defScope s_l_hand) f cdv A outer sh H E).xe := passes_of (X := cxOf (L2.CX P w) P w K mg base n_l_hand "_law_hand" (defScope s_l_hand) f cdv A outer sh H E) rfl
  exact (ss_cons (sset 2 sc_l_hand.nd (d_ix (d_bin o_add (d_slice (dv 0) (op_some (dv 1)) (op_some (d_bin o_add (dv 1) d_int))) (d_lst (a_cons d_int a_nil))) d_int (fun _ _ => rfl)))
    (ss_cons (sset 3 sc_l_hand.nd (d_bin o_mod (d_bin o_mul (d_bin o_add (d_bin o_add (d_bin o_mod (dv 2) d_int) (d_bin o_mul d_int (dv 1))) d_int) d_int) d_int))
    (ss_cons (s_ret (d_refL (l_lst (a_cons (d_bin o_mul (d_callT c_int (by rfl) T.b_int bt_int (a_cons (d_cmp o_ge (dv 2) (d_bin o_pow d_int d_int)) a_nil)) (dv 2)) (a_cons (dv 3) a_nil)))))
    ss_nil)))
set_option maxHeartbeats 4000000 in
theorem ok_l_draw (T : Tx K w mg C_CallersError C_NoText C_Reader)   {f : Addr} {fd : FuncData} (F : Fun K "_law_draw" "_law_draw" s_l_draw f fd) : FnOk P w K mg base (L2.CX P w) 1 f fd [Str.ofString "_law_hand_here", Str.ofString "_law_many"] (spD K (XSd K) 2 (runB 3 2 b_l_draw)) :=
  fn_d F sc_l_draw fun cdv A outer sh H E hr => by
  have tk : Takes (cxOf (L2.CX P w) P w K mg base n_l_draw "_law_draw" (defScope s_l_draw) f cdv A outer sh H E) (fun cls d _ H => E cls d H) := takes_of rfl rfl rfl rfl
  have hp : PassesOwn (model P w) (A.deeper (PyProof.Rows.envOfC "_law_draw" (defScope s_l_draw) sh.heap.objs.size f cdv)) (PyProof.Rows.envOfC "_law_draw" (defScope s_l_draw) sh.heap.objs.size f cdv) (cxOf (L2.CX P w) P w K mg base n_l_draw "_law_draw" (defScope s_l_draw) f cdv A outer sh H E).xe := passes_of (X := cxOf (L2.CX P w) P w K mg base n_l_draw "_law_draw" (defScope s_l_draw) f cdv A outer sh H E) rfl
  exact (ss_cons (s_if (t_cmp o_gt (d_ixR (dv 0) d_int (fun _ _ => rfl)) d_int) (ss_cons (sset 2 sc_l_draw.nd (d_bin o_mod (d_ixR (dv 0) d_int (fun _ _ => rfl)) (dv 1)))
    (ss_cons (s_ixR (dv 0) d_int (d_bin o_fdiv (d_ixR (dv 0) d_int (fun _ _ => rfl)) (dv 1)))
    (ss_cons (s_ret (dv 2))
    ss_nil))) ss_nil)
    (ss_cons (s_ixR (dv 0) d_int (d_bin o_mod (d_bin o_add (d_bin o_mul (d_ixR (dv 0) d_int (fun _ _ => rfl)) d_int) d_int) d_int))
    (ss_cons (s_ret (d_bin o_mod (d_bin o_fdiv (d_bin o_mod (d_bin o_mul (d_ixR (dv 0) d_int (fun _ _ => rfl)) (d_ixR (dv 0) d_int (fun _ _ => rfl))) d_int) d_int) (dv 1)))
    ss_nil)))
set_option maxHeartbeats 4000000 in
theorem ok_Reader____init__ (T : Tx K w mg C_CallersError C_NoText C_Reader)   {f : Addr} {fd : FuncData} (F : Fun K "__init__" "Reader.__init__" s_Reader____init__ f fd) : FnOk P w K mg base (L2.CX P w) 1 f fd [Str.ofString "self", Str.ofString "most"] (spD K (XSd K) 2 (runB 2 2 b_Reader____init__)) :=
  fn_d F sc_Reader____init__ fun cdv A outer sh H E hr => by
  have tk : Takes (cxOf (L2.CX P w) P w K mg base n_Reader____init__ "Reader.__init__" (defScope s_Reader____init__) f cdv A outer sh H E) (fun cls d _ H => E cls d H) := takes_of rfl rfl rfl rfl
  have hp : PassesOwn (model P w) (A.deeper (PyProof.Rows.envOfC "Reader.__init__" (defScope s_Reader____init__) sh.heap.objs.size f cdv)) (PyProof.Rows.envOfC "Reader.__init__" (defScope s_Reader____init__) sh.heap.objs.size f cdv) (cxOf (L2.CX P w) P w K mg base n_Reader____init__ "Reader.__init__" (defScope s_Reader____init__) f cdv A outer sh H E).xe := passes_of (X := cxOf (L2.CX P w) P w K mg base n_Reader____init__ "Reader.__init__" (defScope s_Reader____init__) f cdv A outer sh H E) rfl
  exact (ss_cons (s_fld (csf_cons T.oc_Reader T.ol_Reader T.on_Reader_most csf_nil) (dv 0) (dv 1))
    (ss_cons (s_fld (csf_cons T.oc_Reader T.ol_Reader T.on_Reader_found csf_nil) (dv 0) (d_refL (l_lst a_nil)))
    (ss_cons (s_fld (csf_cons T.oc_Reader T.ol_Reader T.on_Reader_begun csf_nil) (dv 0) d_non)
    (ss_cons (s_fld (csf_cons T.oc_Reader T.ol_Reader T.on_Reader_lines csf_nil) (dv 0) (d_refL (l_lst a_nil)))
    (ss_cons (s_fld (csf_cons T.oc_Reader T.ol_Reader T.on_Reader_known csf_nil) (dv 0) d_refD0)
    ss_nil)))))
set_option maxHeartbeats 4000000 in
theorem ok_goes_over (T : Tx K w mg C_CallersError C_NoText C_Reader)   {f : Addr} {fd : FuncData} (F : Fun K "goes_over" "goes_over" s_goes_over f fd) : FnOk P w K mg base (L2.CX P w) 1 f fd [Str.ofString "row"] (spD K (XSd K) 1 (runB 1 1 b_goes_over)) :=
  fn_d F sc_goes_over fun cdv A outer sh H E hr => by
  have tk : Takes (cxOf (L2.CX P w) P w K mg base n_goes_over "goes_over" (defScope s_goes_over) f cdv A outer sh H E) (fun cls d _ H => E cls d H) := takes_of rfl rfl rfl rfl
  have hp : PassesOwn (model P w) (A.deeper (PyProof.Rows.envOfC "goes_over" (defScope s_goes_over) sh.heap.objs.size f cdv)) (PyProof.Rows.envOfC "goes_over" (defScope s_goes_over) sh.heap.objs.size f cdv) (cxOf (L2.CX P w) P w K mg base n_goes_over "goes_over" (defScope s_goes_over) f cdv A outer sh H E).xe := passes_of (X := cxOf (L2.CX P w) P w K mg base n_goes_over "goes_over" (defScope s_goes_over) f cdv A outer sh H E) rfl
  exact (ss_cons (s_if (t_cmp (o_in (u65 hr)) (d_ix (dv 0) d_int (fun _ _ => rfl)) (d_tup (a_cons d_str (a_cons d_str (a_cons d_str a_nil))))) (ss_cons (s_ret (d_ix (dv 0) (d_neg d_int) (fun _ _ => rfl)))
    ss_nil) ss_nil)
    (ss_cons (s_ret d_int)
    ss_nil))
set_option maxHeartbeats 4000000 in
theorem ok_is_word (T : Tx K w mg C_CallersError C_NoText C_Reader)   {f : Addr} {fd : FuncData} (F : Fun K "is_word" "is_word" s_is_word f fd) : FnOk P w K mg base (L2.CX P w) 1 f fd [Str.ofString "thing"] (spD K (XSd K) 1 (runB 2 1 b_is_word)) :=
  fn_d F sc_is_word fun cdv A outer sh H E hr => by
  have tk : Takes (cxOf (L2.CX P w) P w K mg base n_is_word "is_word" (defScope s_is_word) f cdv A outer sh H E) (fun cls d _ H => E cls d H) := takes_of rfl rfl rfl rfl
  have hp : PassesOwn (model P w) (A.deeper (PyProof.Rows.envOfC "is_word" (defScope s_is_word) sh.heap.objs.size f cdv)) (PyProof.Rows.envOfC "is_word" (defScope s_is_word) sh.heap.objs.size f cdv) (cxOf (L2.CX P w) P w K mg base n_is_word "is_word" (defScope s_is_word) f cdv A outer sh H E).xe := passes_of (X := cxOf (L2.CX P w) P w K mg base n_is_word "is_word" (defScope s_is_word) f cdv A outer sh H E) rfl
  exact (ss_cons (s_if (PW.pt (w_or (t_not (t_val (d_callB (x := "isinstance") c_isi (by rfl) T.b_isinstance bt_isinstance (a_cons (dv 0) (a_cons (d_ty (by rfl) T.b_str bt_str) a_nil))))) (w_or1 (t_not (t_chain o_le o_le d_int (d_callB (x := "len") c_len (by rfl) T.b_len bt_len (a_cons (dv 0) a_nil)) (d_gInt rfl T.c_LONGEST)))))) (ss_cons (s_ret d_bl)
    ss_nil) ss_nil)
    (ss_cons (s_ret (d_callB (x := "all") (c_all rfl) (by rfl) T.b_all bt_all (a_cons (d_new (l_comp (own := [("sign", 1)]) rfl sc_is_word.nd (i_seq (dv 0)) (blkOk_by (N := n_is_word) (sc := defScope s_is_word) (by decide +kernel)) (hvs_N (by decide)) (fun _ _ _ _ _ => (gn 1 sc_is_word.nd)) (fun _ _ _ _ _ => ts_nil) (fun _ _ _ _ _ => (d_cmp (o_in (u65 hr)) (dv 1) (d_gStr rfl T.c_LETTERS))))) a_nil)))
    ss_nil))
set_option maxHeartbeats 4000000 in
theorem ok_are_args (T : Tx K w mg C_CallersError C_NoText C_Reader) (F_is_word : Fn P w K mg base (XSd K) "is_word" 1 1 f_is_word)  {f : Addr} {fd : FuncData} (F : Fun K "are_args" "are_args" s_are_args f fd) : FnOk P w K mg base (L2.CX P w) 2 f fd [Str.ofString "thing"] (spD K (XSd K) 1 (runB 2 1 b_are_args)) :=
  fn_d F sc_are_args fun cdv A outer sh H E hr => by
  have tk : Takes (cxOf (L2.CX P w) P w K mg base n_are_args "are_args" (defScope s_are_args) f cdv A outer sh H E) (fun cls d _ H => E cls d H) := takes_of rfl rfl rfl rfl
  have hp : PassesOwn (model P w) (A.deeper (PyProof.Rows.envOfC "are_args" (defScope s_are_args) sh.heap.objs.size f cdv)) (PyProof.Rows.envOfC "are_args" (defScope s_are_args) sh.heap.objs.size f cdv) (cxOf (L2.CX P w) P w K mg base n_are_args "are_args" (defScope s_are_args) f cdv A outer sh H E).xe := passes_of (X := cxOf (L2.CX P w) P w K mg base n_are_args "are_args" (defScope s_are_args) f cdv A outer sh H E) rfl
  exact (ss_cons (s_ret (d_and (d_callB (x := "isinstance") c_isi (by rfl) T.b_isinstance bt_isinstance (a_cons (dv 0) (a_cons (d_ty (by rfl) T.b_tuple bt_tuple) a_nil))) (d_and (d_cmp o_le (d_callB (x := "len") c_len (by rfl) T.b_len bt_len (a_cons (dv 0) a_nil)) (d_gInt rfl T.c_MOST_ARGS)) (d_one (d_callB (x := "all") (c_all rfl) (by rfl) T.b_all bt_all (a_cons (d_new (l_comp (own := [("word", 1)]) rfl sc_are_args.nd (i_seq (dv 0)) (blkOk_by (N := n_are_args) (sc := defScope s_are_args) (by decide +kernel)) (hvs_N (by decide)) (fun _ _ _ _ _ => (gn 1 sc_are_args.nd)) (fun _ _ _ _ _ => ts_nil) (fun _ _ _ _ _ => (d_callF (x := "is_word") F_is_word takes0 (hr.mono (by decide)) (by rfl) (a_cons (dv 1) a_nil))))) a_nil))))))
    ss_nil)
set_option maxHeartbeats 4000000 in
theorem ok_are_leaves (T : Tx K w mg C_CallersError C_NoText C_Reader) (F_is_word : Fn P w K mg base (XSd K) "is_word" 1 1 f_is_word)  {f : Addr} {fd : FuncData} (F : Fun K "are_leaves" "are_leaves" s_are_leaves f fd) : FnOk P w K mg base (L2.CX P w) 2 f fd [Str.ofString "thing"] (spD K (XSd K) 1 (runB 3 1 b_are_leaves)) :=
  fn_d F sc_are_leaves fun cdv A outer sh H E hr => by
  have tk : Takes (cxOf (L2.CX P w) P w K mg base n_are_leaves "are_leaves" (defScope s_are_leaves) f cdv A outer sh H E) (fun cls d _ H => E cls d H) := takes_of rfl rfl rfl rfl
  have hp : PassesOwn (model P w) (A.deeper (PyProof.Rows.envOfC "are_leaves" (defScope s_are_leaves) sh.heap.objs.size f cdv)) (PyProof.Rows.envOfC "are_leaves" (defScope s_are_leaves) sh.heap.objs.size f cdv) (cxOf (L2.CX P w) P w K mg base n_are_leaves "are_leaves" (defScope s_are_leaves) f cdv A outer sh H E).xe := passes_of (X := cxOf (L2.CX P w) P w K mg base n_are_leaves "are_leaves" (defScope s_are_leaves) f cdv A outer sh H E) rfl
  exact (ss_cons (s_if (PW.pt (w_or (t_not (t_val (d_callB (x := "isinstance") c_isi (by rfl) T.b_isinstance bt_isinstance (a_cons (dv 0) (a_cons (d_ty (by rfl) T.b_tuple bt_tuple) a_nil))))) (w_or1 (t_cmp o_gt (d_callB (x := "len") c_len (by rfl) T.b_len bt_len (a_cons (dv 0) a_nil)) (d_gInt rfl T.c_MOST))))) (ss_cons (s_ret d_bl)
    ss_nil) ss_nil)
    (ss_cons (s_for hp rfl (i_enumerate rfl T.b_enumerate (a_cons (dv 0) a_nil)) (g_tup rfl sc_are_leaves.nd (gc 1 (gc 2 .nil))) (b := t1_are_leaves) (ss_cons (s_if (PW.pt (w_or (t_not (t_val (d_callF (x := "is_word") F_is_word tk (hr.mono (by decide)) (by rfl) (a_cons (dv 2) a_nil)))) (w_or1 (PW.pt (w_and (t_cmp o_gt (dv 1) d_int) (w_and1 (t_cmp o_le (dv 2) (d_ix (dv 0) (d_bin o_sub (dv 1) d_int) (fun _ _ => rfl))))))))) (ss_cons (s_ret d_bl)
    ss_nil) ss_nil)
    ss_nil))
    (ss_cons (s_ret d_bl)
    ss_nil)))
set_option maxHeartbeats 4000000 in
theorem ok_is_whole (T : Tx K w mg C_CallersError C_NoText C_Reader)   {f : Addr} {fd : FuncData} (F : Fun K "is_whole" "is_whole" s_is_whole f fd) : FnOk P w K mg base (L2.CX P w) 1 f fd [Str.ofString "thing"] (spD K (XSd K) 1 (runB 1 1 b_is_whole)) :=
  fn_d F sc_is_whole fun cdv A outer sh H E hr => by
  have tk : Takes (cxOf (L2.CX P w) P w K mg base n_is_whole "is_whole" (defScope s_is_whole) f cdv A outer sh H E) (fun cls d _ H => E cls d H) := takes_of rfl rfl rfl rfl
  have hp : PassesOwn (model P w) (A.deeper (PyProof.Rows.envOfC "is_whole" (defScope s_is_whole) sh.heap.objs.size f cdv)) (PyProof.Rows.envOfC "is_whole" (defScope s_is_whole) sh.heap.objs.size f cdv) (cxOf (L2.CX P w) P w K mg base n_is_whole "is_whole" (defScope s_is_whole) f cdv A outer sh H E).xe := passes_of (X := cxOf (L2.CX P w) P w K mg base n_is_whole "is_whole" (defScope s_is_whole) f cdv A outer sh H E) rfl
  exact (ss_cons (s_ret (d_and (d_callB (x := "isinstance") c_isi (by rfl) T.b_isinstance bt_isinstance (a_cons (dv 0) (a_cons (d_ty (by rfl) T.b_int bt_int) a_nil))) (d_one (d_not (d_callB (x := "isinstance") c_isi (by rfl) T.b_isinstance bt_isinstance (a_cons (dv 0) (a_cons (d_ty (by rfl) T.b_bool bt_bool) a_nil)))))))
    ss_nil)
set_option maxHeartbeats 4000000 in
theorem ok_is_number (T : Tx K w mg C_CallersError C_NoText C_Reader) (F_is_whole : Fn P w K mg base (XSd K) "is_whole" 1 1 f_is_whole)  {f : Addr} {fd : FuncData} (F : Fun K "is_number" "is_number" s_is_number f fd) : FnOk P w K mg base (L2.CX P w) 2 f fd [Str.ofString "thing"] (spD K (XSd K) 1 (runB 1 1 b_is_number)) :=
  fn_d F sc_is_number fun cdv A outer sh H E hr => by
  have tk : Takes (cxOf (L2.CX P w) P w K mg base n_is_number "is_number" (defScope s_is_number) f cdv A outer sh H E) (fun cls d _ H => E cls d H) := takes_of rfl rfl rfl rfl
  have hp : PassesOwn (model P w) (A.deeper (PyProof.Rows.envOfC "is_number" (defScope s_is_number) sh.heap.objs.size f cdv)) (PyProof.Rows.envOfC "is_number" (defScope s_is_number) sh.heap.objs.size f cdv) (cxOf (L2.CX P w) P w K mg base n_is_number "is_number" (defScope s_is_number) f cdv A outer sh H E).xe := passes_of (X := cxOf (L2.CX P w) P w K mg base n_is_number "is_number" (defScope s_is_number) f cdv A outer sh H E) rfl
  exact (ss_cons (s_ret (d_and (d_callF (x := "is_whole") F_is_whole tk (hr.mono (by decide)) (by rfl) (a_cons (dv 0) a_nil)) (d_one (d_cmp o_le (d_callB (x := "abs") c_abs (by rfl) T.b_abs bt_abs (a_cons (dv 0) a_nil)) (d_gInt rfl T.c_GREATEST)))))
    ss_nil)
set_option maxHeartbeats 4000000 in
theorem ok_is_part (T : Tx K w mg C_CallersError C_NoText C_Reader) (F_are_args : Fn P w K mg base (XSd K) "are_args" 2 1 f_are_args) (F_are_leaves : Fn P w K mg base (XSd K) "are_leaves" 2 1 f_are_leaves) (F_is_number : Fn P w K mg base (XSd K) "is_number" 2 1 f_is_number) (F_is_whole : Fn P w K mg base (XSd K) "is_whole" 1 1 f_is_whole) (F_is_word : Fn P w K mg base (XSd K) "is_word" 1 1 f_is_word)  {f : Addr} {fd : FuncData} (F : Fun K "is_part" "is_part" s_is_part f fd) : FnOk P w K mg base (L2.CX P w) 3 f fd [Str.ofString "sort", Str.ofString "thing"] (spD K (XSd K) 2 (runB 2 2 b_is_part)) :=
  fn_d F sc_is_part fun cdv A outer sh H E hr => by
  have tk : Takes (cxOf (L2.CX P w) P w K mg base n_is_part "is_part" (defScope s_is_part) f cdv A outer sh H E) (fun cls d _ H => E cls d H) := takes_of rfl rfl rfl rfl
  have hp : PassesOwn (model P w) (A.deeper (PyProof.Rows.envOfC "is_part" (defScope s_is_part) sh.heap.objs.size f cdv)) (PyProof.Rows.envOfC "is_part" (defScope s_is_part) sh.heap.objs.size f cdv) (cxOf (L2.CX P w) P w K mg base n_is_part "is_part" (defScope s_is_part) f cdv A outer sh H E).xe := passes_of (X := cxOf (L2.CX P w) P w K mg base n_is_part "is_part" (defScope s_is_part) f cdv A outer sh H E) rfl
  exact (ss_cons (s_if (t_cmp (o_eq hr.units) (dv 0) d_str) (ss_cons (s_ret (d_callF (x := "is_word") F_is_word tk (hr.mono (by decide)) (by rfl) (a_cons (dv 1) a_nil)))
    ss_nil) ss_nil)
    (ss_cons (s_if (t_cmp (o_eq hr.units) (dv 0) d_str) (ss_cons (s_ret (d_callF (x := "is_number") F_is_number tk (hr.mono (by decide)) (by rfl) (a_cons (dv 1) a_nil)))
    ss_nil) ss_nil)
    (ss_cons (s_if (t_cmp (o_eq hr.units) (dv 0) d_str) (ss_cons (s_ret (d_callF (x := "are_args") F_are_args tk (hr.mono (by decide)) (by rfl) (a_cons (dv 1) a_nil)))
    ss_nil) ss_nil)
    (ss_cons (s_if (t_cmp (o_eq hr.units) (dv 0) d_str) (ss_cons (s_ret (d_callF (x := "are_leaves") F_are_leaves tk (hr.mono (by decide)) (by rfl) (a_cons (dv 1) a_nil)))
    ss_nil) ss_nil)
    (ss_cons (s_ret (d_and (d_callF (x := "is_whole") F_is_whole tk (hr.mono (by decide)) (by rfl) (a_cons (dv 1) a_nil)) (d_one (d_cmp o_gt (dv 1) d_int))))
    ss_nil)))))
set_option maxHeartbeats 4000000 in
theorem ok_is_row (T : Tx K w mg C_CallersError C_NoText C_Reader) (F_is_part : Fn P w K mg base (XSd K) "is_part" 3 2 f_is_part)  {f : Addr} {fd : FuncData} (F : Fun K "is_row" "is_row" s_is_row f fd) : FnOk P w K mg base (L2.CX P w) 4 f fd [Str.ofString "thing"] (spD K (XSd K) 1 (runB 3 1 b_is_row)) :=
  fn_d F sc_is_row fun cdv A outer sh H E hr => by
  have tk : Takes (cxOf (L2.CX P w) P w K mg base n_is_row "is_row" (defScope s_is_row) f cdv A outer sh H E) (fun cls d _ H => E cls d H) := takes_of rfl rfl rfl rfl
  have hp : PassesOwn (model P w) (A.deeper (PyProof.Rows.envOfC "is_row" (defScope s_is_row) sh.heap.objs.size f cdv)) (PyProof.Rows.envOfC "is_row" (defScope s_is_row) sh.heap.objs.size f cdv) (cxOf (L2.CX P w) P w K mg base n_is_row "is_row" (defScope s_is_row) f cdv A outer sh H E).xe := passes_of (X := cxOf (L2.CX P w) P w K mg base n_is_row "is_row" (defScope s_is_row) f cdv A outer sh H E) rfl
  exact (ss_cons (s_if (PW.pt (w_or (t_not (t_val (d_callB (x := "isinstance") c_isi (by rfl) T.b_isinstance bt_isinstance (a_cons (dv 0) (a_cons (d_ty (by rfl) T.b_tuple bt_tuple) a_nil))))) (w_or (t_cmp (o_eq hr.units) (dv 0) (d_tup a_nil)) (w_or1 (t_not (t_val (d_callB (x := "isinstance") c_isi (by rfl) T.b_isinstance bt_isinstance (a_cons (d_ix (dv 0) d_int (fun _ _ => rfl)) (a_cons (d_ty (by rfl) T.b_str bt_str) a_nil))))))))) (ss_cons (s_ret d_bl)
    ss_nil) ss_nil)
    (ss_cons (s_if (PW.pt (w_or (t_tabNin T.t_PARTS rfl (d_ix (dv 0) d_int (fun _ _ => rfl))) (w_or1 (t_cmp (o_ne hr.units) (d_callB (x := "len") c_len (by rfl) T.b_len bt_len (a_cons (dv 0) a_nil)) (d_bin o_add (d_callB (x := "len") c_len (by rfl) T.b_len bt_len (a_cons (d_tabIx T.t_PARTS rfl (d_ix (dv 0) d_int (fun _ _ => rfl)) (fun _ _ => rfl)) a_nil)) d_int))))) (ss_cons (s_ret d_bl)
    ss_nil) ss_nil)
    (ss_cons (s_ret (d_callB (x := "all") (c_all rfl) (by rfl) T.b_all bt_all (a_cons (d_new (l_comp (own := [("sort", 1), ("part", 2)]) rfl sc_is_row.nd (i_zip rfl T.b_zip (a_cons (d_tabIx T.t_PARTS rfl (d_ix (dv 0) d_int (fun _ _ => rfl)) (fun _ _ => rfl)) (a_cons (d_slice (dv 0) (op_some d_int) op_none) a_nil))) (blkOk_by (N := n_is_row) (sc := defScope s_is_row) (by decide +kernel)) (hvs_T (by decide)) (fun _ _ _ _ _ => (g_tup rfl sc_is_row.nd (gc 1 (gc 2 .nil)))) (fun _ _ _ _ _ => ts_nil) (fun _ _ _ _ _ => (d_callF (x := "is_part") F_is_part takes0 (hr.mono (by decide)) (by rfl) (a_cons (dv 1) (a_cons (dv 2) a_nil)))))) a_nil)))
    ss_nil)))
set_option maxHeartbeats 4000000 in
theorem ok_bad_row (T : Tx K w mg C_CallersError C_NoText C_Reader) (F_goes_over : Fn P w K mg base (XSd K) "goes_over" 1 1 f_goes_over) (F_is_row : Fn P w K mg base (XSd K) "is_row" 4 1 f_is_row)  {f : Addr} {fd : FuncData} (F : Fun K "bad_row" "bad_row" s_bad_row f fd) : FnOk P w K mg base (L2.CX P w) 5 f fd [Str.ofString "rows"] (spD K (XSd K) 1 (runB 3 1 b_bad_row)) :=
  fn_d F sc_bad_row fun cdv A outer sh H E hr => by
  have tk : Takes (cxOf (L2.CX P w) P w K mg base n_bad_row "bad_row" (defScope s_bad_row) f cdv A outer sh H E) (fun cls d _ H => E cls d H) := takes_of rfl rfl rfl rfl
  have hp : PassesOwn (model P w) (A.deeper (PyProof.Rows.envOfC "bad_row" (defScope s_bad_row) sh.heap.objs.size f cdv)) (PyProof.Rows.envOfC "bad_row" (defScope s_bad_row) sh.heap.objs.size f cdv) (cxOf (L2.CX P w) P w K mg base n_bad_row "bad_row" (defScope s_bad_row) f cdv A outer sh H E).xe := passes_of (X := cxOf (L2.CX P w) P w K mg base n_bad_row "bad_row" (defScope s_bad_row) f cdv A outer sh H E) rfl
  exact (ss_cons (s_for hp rfl (i_enumerate rfl T.b_enumerate (a_cons (dv 0) a_nil)) (g_tup rfl sc_bad_row.nd (gc 1 (gc 2 .nil))) (b := t1_bad_row) (ss_cons (s_if (PW.pt (w_or (t_not (t_val (d_callF (x := "is_row") F_is_row tk (hr.mono (by decide)) (by rfl) (a_cons (dv 2) a_nil)))) (w_or1 (t_cmp o_gt (d_bin o_add (d_bin o_add (dv 1) d_int) (d_callF (x := "goes_over") F_goes_over tk (hr.mono (by decide)) (by rfl) (a_cons (dv 2) a_nil))) (d_callB (x := "len") c_len (by rfl) T.b_len bt_len (a_cons (dv 0) a_nil)))))) (ss_cons (s_ret (dv 1))
    ss_nil) ss_nil)
    ss_nil))
    (ss_cons (s_ret d_non)
    ss_nil))
set_option maxHeartbeats 4000000 in
theorem ok_Reader__end (T : Tx K w mg C_CallersError C_NoText C_Reader) (F_bad_row : Fn P w K mg base (XSd K) "bad_row" 5 1 f_bad_row) (X_NoText : ExFn P w K mg base "NoText" 1 [Str.ofString "row"])  {f : Addr} {fd : FuncData} (F : Fun K "end" "Reader.end" s_Reader__end f fd) : FnOk P w K mg base (L2.CX P w) 6 f fd [Str.ofString "self", Str.ofString "at"] (spD K (XSd K) 2 (runB 3 2 b_Reader__end)) :=
  fn_d F sc_Reader__end fun cdv A outer sh H E hr => by
  have tk : Takes (cxOf (L2.CX P w) P w K mg base n_Reader__end "Reader.end" (defScope s_Reader__end) f cdv A outer sh H E) (fun cls d _ H => E cls d H) := takes_of rfl rfl rfl rfl
  have hp : PassesOwn (model P w) (A.deeper (PyProof.Rows.envOfC "Reader.end" (defScope s_Reader__end) sh.heap.objs.size f cdv)) (PyProof.Rows.envOfC "Reader.end" (defScope s_Reader__end) sh.heap.objs.size f cdv) (cxOf (L2.CX P w) P w K mg base n_Reader__end "Reader.end" (defScope s_Reader__end) f cdv A outer sh H E).xe := passes_of (X := cxOf (L2.CX P w) P w K mg base n_Reader__end "Reader.end" (defScope s_Reader__end) f cdv A outer sh H E) rfl
  exact (ss_cons (s_if (t_cmp o_isnot (d_fld (csf_cons T.oc_Reader T.ol_Reader T.on_Reader_begun csf_nil) (dv 0)) d_non) (ss_cons (s_if (t_eqNil (unitsN hr) (d_fld (csf_cons T.oc_Reader T.ol_Reader T.on_Reader_lines csf_nil) (dv 0))) (ss_cons (s_raise X_NoText rfl tk (hr.mono (by decide)) (by rfl) (by decide) (a_cons (dv 1) a_nil))
    ss_nil) ss_nil)
    (ss_cons (sset 2 sc_Reader__end.nd (d_callV (x := "bad_row") F_bad_row tk (hr.mono (by decide)) (by rfl) (a_cons (d_fld (csf_cons T.oc_Reader T.ol_Reader T.on_Reader_lines csf_nil) (dv 0)) a_nil)))
    (ss_cons (s_if (t_cmp o_isnot (dv 2) d_non) (ss_cons (s_raise X_NoText rfl tk (hr.mono (by decide)) (by rfl) (by decide) (a_cons (d_bin o_add (d_bin o_sub (dv 1) (d_lenR (by rfl) T.b_len (d_fld (csf_cons T.oc_Reader T.ol_Reader T.on_Reader_lines csf_nil) (dv 0)))) (dv 2)) a_nil))
    ss_nil) ss_nil)
    (ss_cons (s_appR (d_fld (csf_cons T.oc_Reader T.ol_Reader T.on_Reader_found csf_nil) (dv 0)) (d_bin o_add (d_fld (csf_cons T.oc_Reader T.ol_Reader T.on_Reader_begun csf_nil) (dv 0)) (d_tup (a_cons (d_tupR (by rfl) T.b_tuple (d_fld (csf_cons T.oc_Reader T.ol_Reader T.on_Reader_lines csf_nil) (dv 0))) a_nil))))
    (ss_cons (s_fld (csf_cons T.oc_Reader T.ol_Reader T.on_Reader_lines csf_nil) (dv 0) (d_refL (l_lst a_nil)))
    ss_nil))))) ss_nil)
    ss_nil)
set_option maxHeartbeats 4000000 in
theorem ok_Reader__learn (T : Tx K w mg C_CallersError C_NoText C_Reader)  (X_NoText : ExFn P w K mg base "NoText" 1 [Str.ofString "row"])  {f : Addr} {fd : FuncData} (F : Fun K "learn" "Reader.learn" s_Reader__learn f fd) : FnOk P w K mg base (L2.CX P w) 3 f fd [Str.ofString "self", Str.ofString "words", Str.ofString "at"] (spD K (XSd K) 3 (runB 4 3 b_Reader__learn)) :=
  fn_d F sc_Reader__learn fun cdv A outer sh H E hr => by
  have tk : Takes (cxOf (L2.CX P w) P w K mg base n_Reader__learn "Reader.learn" (defScope s_Reader__learn) f cdv A outer sh H E) (fun cls d _ H => E cls d H) := takes_of rfl rfl rfl rfl
  have hp : PassesOwn (model P w) (A.deeper (PyProof.Rows.envOfC "Reader.learn" (defScope s_Reader__learn) sh.heap.objs.size f cdv)) (PyProof.Rows.envOfC "Reader.learn" (defScope s_Reader__learn) sh.heap.objs.size f cdv) (cxOf (L2.CX P w) P w K mg base n_Reader__learn "Reader.learn" (defScope s_Reader__learn) f cdv A outer sh H E).xe := passes_of (X := cxOf (L2.CX P w) P w K mg base n_Reader__learn "Reader.learn" (defScope s_Reader__learn) f cdv A outer sh H E) rfl
  exact (ss_cons (s_for hp rfl (i_seq (dv 1)) (gn 3 sc_Reader__learn.nd) (b := t1_Reader__learn) (ss_cons (s_dput (units1 hr) (d_fld (csf_cons T.oc_Reader T.ol_Reader T.on_Reader_known csf_nil) (dv 0)) (dv 3) d_bl)
    ss_nil))
    (ss_cons (s_if (t_cmp o_gt (d_lenDR (by rfl) T.b_len (d_fld (csf_cons T.oc_Reader T.ol_Reader T.on_Reader_known csf_nil) (dv 0))) (d_gInt rfl T.c_MOST_LEAVES)) (ss_cons (s_raise X_NoText rfl tk (hr.mono (by decide)) (by rfl) (by decide) (a_cons (dv 2) a_nil))
    ss_nil) ss_nil)
    ss_nil))
set_option maxHeartbeats 4000000 in
theorem ok_is_head (T : Tx K w mg C_CallersError C_NoText C_Reader) (F_are_args : Fn P w K mg base (XSd K) "are_args" 2 1 f_are_args) (F_are_leaves : Fn P w K mg base (XSd K) "are_leaves" 2 1 f_are_leaves) (F_is_word : Fn P w K mg base (XSd K) "is_word" 1 1 f_is_word)  {f : Addr} {fd : FuncData} (F : Fun K "is_head" "is_head" s_is_head f fd) : FnOk P w K mg base (L2.CX P w) 3 f fd [Str.ofString "thing"] (spD K (XSd K) 1 (runB 5 1 b_is_head)) :=
  fn_d F sc_is_head fun cdv A outer sh H E hr => by
  have tk : Takes (cxOf (L2.CX P w) P w K mg base n_is_head "is_head" (defScope s_is_head) f cdv A outer sh H E) (fun cls d _ H => E cls d H) := takes_of rfl rfl rfl rfl
  have hp : PassesOwn (model P w) (A.deeper (PyProof.Rows.envOfC "is_head" (defScope s_is_head) sh.heap.objs.size f cdv)) (PyProof.Rows.envOfC "is_head" (defScope s_is_head) sh.heap.objs.size f cdv) (cxOf (L2.CX P w) P w K mg base n_is_head "is_head" (defScope s_is_head) f cdv A outer sh H E).xe := passes_of (X := cxOf (L2.CX P w) P w K mg base n_is_head "is_head" (defScope s_is_head) f cdv A outer sh H E) rfl
  exact (ss_cons (s_if (PW.pt (w_or (t_not (t_val (d_callB (x := "isinstance") c_isi (by rfl) T.b_isinstance bt_isinstance (a_cons (dv 0) (a_cons (d_ty (by rfl) T.b_tuple bt_tuple) a_nil))))) (w_or1 (t_cmp (o_ne hr.units) (d_callB (x := "len") c_len (by rfl) T.b_len bt_len (a_cons (dv 0) a_nil)) d_int)))) (ss_cons (s_ret d_bl)
    ss_nil) ss_nil)
    (ss_cons (s_unp (dv 0) (g_any rfl sc_is_head.nd (gc 1 (gc 2 (gc 3 (gc 4 .nil))))))
    (ss_cons (s_if (PW.pt (w_or (t_not (t_val (d_callF (x := "is_word") F_is_word tk (hr.mono (by decide)) (by rfl) (a_cons (dv 1) a_nil)))) (w_or (t_not (t_val (d_callF (x := "are_leaves") F_are_leaves tk (hr.mono (by decide)) (by rfl) (a_cons (dv 2) a_nil)))) (w_or (t_not (t_val (d_callF (x := "are_args") F_are_args tk (hr.mono (by decide)) (by rfl) (a_cons (dv 3) a_nil)))) (w_or1 (t_cmp (o_ne hr.units) (d_lenSet rfl rfl T.b_len rfl T.b_set (dv 3)) (d_callB (x := "len") c_len (by rfl) T.b_len bt_len (a_cons (dv 3) a_nil)))))))) (ss_cons (s_ret d_bl)
    ss_nil) ss_nil)
    (ss_cons (s_ret (d_and (d_callB (x := "isinstance") c_isi (by rfl) T.b_isinstance bt_isinstance (a_cons (dv 4) (a_cons (d_ty (by rfl) T.b_tuple bt_tuple) a_nil))) (d_one (d_chain o_le o_le d_int (d_callB (x := "len") c_len (by rfl) T.b_len bt_len (a_cons (dv 4) a_nil)) (d_gInt rfl T.c_MOST_ROWS)))))
    ss_nil))))
set_option maxHeartbeats 4000000 in
theorem ok_parted (T : Tx K w mg C_CallersError C_NoText C_Reader)   {f : Addr} {fd : FuncData} (F : Fun K "parted" "parted" s_parted f fd) : FnOk P w K mg base (L2.CX P w) 1 f fd [Str.ofString "words"] (spD K (XSd K) 1 (runB 2 1 b_parted)) :=
  fn_d F sc_parted fun cdv A outer sh H E hr => by
  have tk : Takes (cxOf (L2.CX P w) P w K mg base n_parted "parted" (defScope s_parted) f cdv A outer sh H E) (fun cls d _ H => E cls d H) := takes_of rfl rfl rfl rfl
  have hp : PassesOwn (model P w) (A.deeper (PyProof.Rows.envOfC "parted" (defScope s_parted) sh.heap.objs.size f cdv)) (PyProof.Rows.envOfC "parted" (defScope s_parted) sh.heap.objs.size f cdv) (cxOf (L2.CX P w) P w K mg base n_parted "parted" (defScope s_parted) f cdv A outer sh H E).xe := passes_of (X := cxOf (L2.CX P w) P w K mg base n_parted "parted" (defScope s_parted) f cdv A outer sh H E) rfl
  exact (ss_cons (s_if (t_cmp (o_ne hr.units) (d_count (dv 0) d_str) d_int) (ss_cons (s_ret d_non)
    ss_nil) ss_nil)
    (ss_cons (sset 1 sc_parted.nd (d_index (dv 0) d_str))
    (ss_cons (s_ret (d_tup (a_cons (d_callT c_tup (by rfl) T.b_tuple bt_tuple (a_cons (d_slice (dv 0) op_none (op_some (dv 1))) a_nil)) (a_cons (d_callT c_tup (by rfl) T.b_tuple bt_tuple (a_cons (d_slice (dv 0) (op_some (d_bin o_add (dv 1) d_int)) op_none) a_nil)) a_nil))))
    ss_nil)))
set_option maxHeartbeats 4000000 in
theorem ok_head_of (T : Tx K w mg C_CallersError C_NoText C_Reader) (F_is_head : Fn P w K mg base (XSd K) "is_head" 3 1 f_is_head) (F_parted : Fn P w K mg base (XSd K) "parted" 1 1 f_parted)  {f : Addr} {fd : FuncData} (F : Fun K "head_of" "head_of" s_head_of f fd) : FnOk P w K mg base (L2.CX P w) 4 f fd [Str.ofString "words"] (spD K (XSd K) 1 (runB 2 1 b_head_of)) :=
  fn_d F sc_head_of fun cdv A outer sh H E hr => by
  have tk : Takes (cxOf (L2.CX P w) P w K mg base n_head_of "head_of" (defScope s_head_of) f cdv A outer sh H E) (fun cls d _ H => E cls d H) := takes_of rfl rfl rfl rfl
  have hp : PassesOwn (model P w) (A.deeper (PyProof.Rows.envOfC "head_of" (defScope s_head_of) sh.heap.objs.size f cdv)) (PyProof.Rows.envOfC "head_of" (defScope s_head_of) sh.heap.objs.size f cdv) (cxOf (L2.CX P w) P w K mg base n_head_of "head_of" (defScope s_head_of) f cdv A outer sh H E).xe := passes_of (X := cxOf (L2.CX P w) P w K mg base n_head_of "head_of" (defScope s_head_of) f cdv A outer sh H E) rfl
  exact (ss_cons (s_if (PW.pt (w_or (t_cmp o_lt (d_callB (x := "len") c_len (by rfl) T.b_len bt_len (a_cons (dv 0) a_nil)) d_int) (w_or1 (t_cmp (o_ne hr.units) (d_ix (dv 0) d_int (fun _ _ => rfl)) d_str)))) (ss_cons (s_ret d_non)
    ss_nil) ss_nil)
    (ss_cons (sset 1 sc_head_of.nd (d_callF (x := "parted") F_parted tk (hr.mono (by decide)) (by rfl) (a_cons (d_slice (dv 0) (op_some d_int) op_none) a_nil)))
    (ss_cons (s_if (PW.pt (w_or (t_cmp o_is (dv 1) d_non) (w_or1 (t_not (t_val (d_callF (x := "is_head") F_is_head tk (hr.mono (by decide)) (by rfl) (a_cons (d_tup (a_cons (d_ix (dv 0) d_int (fun _ _ => rfl)) (a_cons (d_ix (dv 1) d_int (fun _ _ => rfl)) (a_cons (d_ix (dv 1) d_int (fun _ _ => rfl)) (a_cons (d_tup (a_cons (d_tup (a_cons d_str a_nil)) a_nil)) a_nil))))) a_nil))))))) (ss_cons (s_ret d_non)
    ss_nil) ss_nil)
    (ss_cons (s_ret (d_tup (a_cons (d_ix (dv 0) d_int (fun _ _ => rfl)) (a_cons (d_ix (dv 1) d_int (fun _ _ => rfl)) (a_cons (d_ix (dv 1) d_int (fun _ _ => rfl)) a_nil)))))
    ss_nil))))
set_option maxHeartbeats 4000000 in
theorem ok_Reader__begin (T : Tx K w mg C_CallersError C_NoText C_Reader) (F_head_of : Fn P w K mg base (XSd K) "head_of" 4 1 f_head_of) (M_Reader_end : Mt P w K mg base (XSd K) "Reader" "end" 6 2 f_Reader__end) (M_Reader_learn : Mt P w K mg base (XSd K) "Reader" "learn" 3 3 f_Reader__learn) (X_NoText : ExFn P w K mg base "NoText" 1 [Str.ofString "row"])  {f : Addr} {fd : FuncData} (F : Fun K "begin" "Reader.begin" s_Reader__begin f fd) : FnOk P w K mg base (L2.CX P w) 7 f fd [Str.ofString "self", Str.ofString "words", Str.ofString "at"] (spD K (XSd K) 3 (runB 4 3 b_Reader__begin)) :=
  fn_d F sc_Reader__begin fun cdv A outer sh H E hr => by
  have tk : Takes (cxOf (L2.CX P w) P w K mg base n_Reader__begin "Reader.begin" (defScope s_Reader__begin) f cdv A outer sh H E) (fun cls d _ H => E cls d H) := takes_of rfl rfl rfl rfl
  have hp : PassesOwn (model P w) (A.deeper (PyProof.Rows.envOfC "Reader.begin" (defScope s_Reader__begin) sh.heap.objs.size f cdv)) (PyProof.Rows.envOfC "Reader.begin" (defScope s_Reader__begin) sh.heap.objs.size f cdv) (cxOf (L2.CX P w) P w K mg base n_Reader__begin "Reader.begin" (defScope s_Reader__begin) f cdv A outer sh H E).xe := passes_of (X := cxOf (L2.CX P w) P w K mg base n_Reader__begin "Reader.begin" (defScope s_Reader__begin) f cdv A outer sh H E) rfl
  exact (ss_cons (s_expr (d_meth (m := "end") (k := 6) (mts_cons M_Reader_end (by decide) mts_nil) tk (hr.mono (by decide)) (dv 0) (a_cons (dv 2) a_nil)))
    (ss_cons (s_fld (csf_cons T.oc_Reader T.ol_Reader T.on_Reader_begun csf_nil) (dv 0) (d_callF (x := "head_of") F_head_of tk (hr.mono (by decide)) (by rfl) (a_cons (dv 1) a_nil)))
    (ss_cons (s_if (PW.pt (w_or (t_cmp o_is (d_fld (csf_cons T.oc_Reader T.ol_Reader T.on_Reader_begun csf_nil) (dv 0)) d_non) (w_or (t_cmp (o_in (u65 hr)) (d_ix (d_fld (csf_cons T.oc_Reader T.ol_Reader T.on_Reader_begun csf_nil) (dv 0)) d_int (fun _ _ => rfl)) (d_new (l_compV (own := [("piece", 3)]) rfl sc_Reader__begin.nd (d_fld (csf_cons T.oc_Reader T.ol_Reader T.on_Reader_found csf_nil) (dv 0)) (blkOk_by (N := n_Reader__begin) (sc := defScope s_Reader__begin) (by decide +kernel)) (hvs_N (by decide)) (fun _ _ _ _ _ => (gn 3 sc_Reader__begin.nd)) (fun _ _ _ _ _ => ts_nil) (fun _ _ _ _ _ => (d_ix (dv 3) d_int (fun _ _ => rfl)))))) (w_or1 (t_cmp (o_eq hr.units) (d_lenR (by rfl) T.b_len (d_fld (csf_cons T.oc_Reader T.ol_Reader T.on_Reader_found csf_nil) (dv 0))) (d_fld (csf_cons T.oc_Reader T.ol_Reader T.on_Reader_most csf_nil) (dv 0))))))) (ss_cons (s_raise X_NoText rfl tk (hr.mono (by decide)) (by rfl) (by decide) (a_cons (dv 2) a_nil))
    ss_nil) ss_nil)
    (ss_cons (s_expr (d_meth (m := "learn") (k := 3) (mts_cons M_Reader_learn (by decide) mts_nil) tk (hr.mono (by decide)) (dv 0) (a_cons (d_ix (d_fld (csf_cons T.oc_Reader T.ol_Reader T.on_Reader_begun csf_nil) (dv 0)) d_int (fun _ _ => rfl)) (a_cons (dv 2) a_nil))))
    ss_nil))))
set_option maxHeartbeats 4000000 in
theorem ok_leaves_in (T : Tx K w mg C_CallersError C_NoText C_Reader)   {f : Addr} {fd : FuncData} (F : Fun K "leaves_in" "leaves_in" s_leaves_in f fd) : FnOk P w K mg base (L2.CX P w) 1 f fd [Str.ofString "row"] (spD K (XSd K) 1 (runB 1 1 b_leaves_in)) :=
  fn_d F sc_leaves_in fun cdv A outer sh H E hr => by
  have tk : Takes (cxOf (L2.CX P w) P w K mg base n_leaves_in "leaves_in" (defScope s_leaves_in) f cdv A outer sh H E) (fun cls d _ H => E cls d H) := takes_of rfl rfl rfl rfl
  have hp : PassesOwn (model P w) (A.deeper (PyProof.Rows.envOfC "leaves_in" (defScope s_leaves_in) sh.heap.objs.size f cdv)) (PyProof.Rows.envOfC "leaves_in" (defScope s_leaves_in) sh.heap.objs.size f cdv) (cxOf (L2.CX P w) P w K mg base n_leaves_in "leaves_in" (defScope s_leaves_in) f cdv A outer sh H E).xe := passes_of (X := cxOf (L2.CX P w) P w K mg base n_leaves_in "leaves_in" (defScope s_leaves_in) f cdv A outer sh H E) rfl
  exact (ss_cons (s_if (t_cmp (o_in (u65 hr)) (d_ix (dv 0) d_int (fun _ _ => rfl)) (d_tup (a_cons d_str (a_cons d_str a_nil)))) (ss_cons (s_ret (d_ix (dv 0) (d_neg d_int) (fun _ _ => rfl)))
    ss_nil) ss_nil)
    (ss_cons (s_if (t_cmp (o_in (u65 hr)) (d_ix (dv 0) d_int (fun _ _ => rfl)) (d_tup (a_cons d_str (a_cons d_str (a_cons d_str a_nil))))) (ss_cons (s_ret (d_tup (a_cons (d_ix (dv 0) d_int (fun _ _ => rfl)) a_nil)))
    ss_nil) ss_nil)
    (ss_cons (s_ret (d_tup a_nil))
    ss_nil)))
set_option maxHeartbeats 4000000 in
theorem ok_number_of (T : Tx K w mg C_CallersError C_NoText C_Reader)   {f : Addr} {fd : FuncData} (F : Fun K "number_of" "number_of" s_number_of f fd) : FnOk P w K mg base (L2.CX P w) 1 f fd [Str.ofString "text"] (spD K (XSd K) 1 (runB 2 1 b_number_of)) :=
  fn_d F sc_number_of fun cdv A outer sh H E hr => by
  have tk : Takes (cxOf (L2.CX P w) P w K mg base n_number_of "number_of" (defScope s_number_of) f cdv A outer sh H E) (fun cls d _ H => E cls d H) := takes_of rfl rfl rfl rfl
  have hp : PassesOwn (model P w) (A.deeper (PyProof.Rows.envOfC "number_of" (defScope s_number_of) sh.heap.objs.size f cdv)) (PyProof.Rows.envOfC "number_of" (defScope s_number_of) sh.heap.objs.size f cdv) (cxOf (L2.CX P w) P w K mg base n_number_of "number_of" (defScope s_number_of) f cdv A outer sh H E).xe := passes_of (X := cxOf (L2.CX P w) P w K mg base n_number_of "number_of" (defScope s_number_of) f cdv A outer sh H E) rfl
  exact (ss_cons (s_if (PW.pt (w_or (t_cmp (o_eq hr.units) (dv 0) d_str) (w_or1 (PW.pt (w_and (t_cmp (o_eq hr.units) (d_ix (dv 0) d_int (fun _ _ => rfl)) d_str) (w_and1 (t_cmp (o_ne hr.units) (dv 0) d_str))))))) (ss_cons (s_ret d_non)
    ss_nil) ss_nil)
    (ss_cons (s_for hp rfl (i_seq (dv 0)) (gn 1 sc_number_of.nd) (b := t1_number_of) (ss_cons (s_if (t_cmp (o_nin (u65 hr)) (dv 1) (d_gStr rfl T.c_FIGURES)) (ss_cons (s_ret d_non)
    ss_nil) ss_nil)
    ss_nil))
    (ss_cons (s_if (t_cmp o_gt (d_callB (x := "len") c_len (by rfl) T.b_len bt_len (a_cons (dv 0) a_nil)) (d_gInt rfl T.c_MOST_FIGURES)) (ss_cons (s_ret (d_gInt rfl T.c_BEYOND))
    ss_nil) ss_nil)
    (ss_cons (s_ret (d_callT c_intA (by rfl) T.b_int bt_int (a_cons (dv 0) a_nil)))
    ss_nil))))
set_option maxHeartbeats 4000000 in
theorem ok_signed (T : Tx K w mg C_CallersError C_NoText C_Reader) (F_number_of : Fn P w K mg base (XSd K) "number_of" 1 1 f_number_of)  {f : Addr} {fd : FuncData} (F : Fun K "signed" "signed" s_signed f fd) : FnOk P w K mg base (L2.CX P w) 2 f fd [Str.ofString "text"] (spD K (XSd K) 1 (runB 2 1 b_signed)) :=
  fn_d F sc_signed fun cdv A outer sh H E hr => by
  have tk : Takes (cxOf (L2.CX P w) P w K mg base n_signed "signed" (defScope s_signed) f cdv A outer sh H E) (fun cls d _ H => E cls d H) := takes_of rfl rfl rfl rfl
  have hp : PassesOwn (model P w) (A.deeper (PyProof.Rows.envOfC "signed" (defScope s_signed) sh.heap.objs.size f cdv)) (PyProof.Rows.envOfC "signed" (defScope s_signed) sh.heap.objs.size f cdv) (cxOf (L2.CX P w) P w K mg base n_signed "signed" (defScope s_signed) f cdv A outer sh H E).xe := passes_of (X := cxOf (L2.CX P w) P w K mg base n_signed "signed" (defScope s_signed) f cdv A outer sh H E) rfl
  exact (ss_cons (s_if (PW.pt (w_and (t_cmp (o_eq hr.units) (d_slice (dv 0) op_none (op_some d_int)) d_str) (w_and1 (t_cmp (o_ne hr.units) (dv 0) d_str)))) (ss_cons (sset 1 sc_signed.nd (d_callF (x := "number_of") F_number_of tk (hr.mono (by decide)) (by rfl) (a_cons (d_slice (dv 0) (op_some d_int) op_none) a_nil)))
    (ss_cons (s_if (t_cmp o_is (dv 1) d_non) (ss_cons (s_ret d_non)
    ss_nil) ss_nil)
    (ss_cons (s_ret (d_bin o_sub d_int (dv 1)))
    ss_nil))) ss_nil)
    (ss_cons (s_ret (d_callF (x := "number_of") F_number_of tk (hr.mono (by decide)) (by rfl) (a_cons (dv 0) a_nil)))
    ss_nil))
set_option maxHeartbeats 4000000 in
theorem ok_part_of (T : Tx K w mg C_CallersError C_NoText C_Reader) (F_number_of : Fn P w K mg base (XSd K) "number_of" 1 1 f_number_of) (F_signed : Fn P w K mg base (XSd K) "signed" 2 1 f_signed)  {f : Addr} {fd : FuncData} (F : Fun K "part_of" "part_of" s_part_of f fd) : FnOk P w K mg base (L2.CX P w) 3 f fd [Str.ofString "sort", Str.ofString "word"] (spD K (XSd K) 2 (runB 2 2 b_part_of)) :=
  fn_d F sc_part_of fun cdv A outer sh H E hr => by
  have tk : Takes (cxOf (L2.CX P w) P w K mg base n_part_of "part_of" (defScope s_part_of) f cdv A outer sh H E) (fun cls d _ H => E cls d H) := takes_of rfl rfl rfl rfl
  have hp : PassesOwn (model P w) (A.deeper (PyProof.Rows.envOfC "part_of" (defScope s_part_of) sh.heap.objs.size f cdv)) (PyProof.Rows.envOfC "part_of" (defScope s_part_of) sh.heap.objs.size f cdv) (cxOf (L2.CX P w) P w K mg base n_part_of "part_of" (defScope s_part_of) f cdv A outer sh H E).xe := passes_of (X := cxOf (L2.CX P w) P w K mg base n_part_of "part_of" (defScope s_part_of) f cdv A outer sh H E) rfl
  exact (ss_cons (s_if (t_cmp (o_eq hr.units) (dv 0) d_str) (ss_cons (s_ret (d_callF (x := "signed") F_signed tk (hr.mono (by decide)) (by rfl) (a_cons (dv 1) a_nil)))
    ss_nil) ss_nil)
    (ss_cons (s_if (t_cmp (o_eq hr.units) (dv 0) d_str) (ss_cons (s_ret (d_callF (x := "number_of") F_number_of tk (hr.mono (by decide)) (by rfl) (a_cons (dv 1) a_nil)))
    ss_nil) ss_nil)
    (ss_cons (s_ret (dv 1))
    ss_nil)))
set_option maxHeartbeats 4000000 in
theorem ok_row_of (T : Tx K w mg C_CallersError C_NoText C_Reader) (F_is_row : Fn P w K mg base (XSd K) "is_row" 4 1 f_is_row) (F_part_of : Fn P w K mg base (XSd K) "part_of" 3 2 f_part_of) (F_parted : Fn P w K mg base (XSd K) "parted" 1 1 f_parted)  {f : Addr} {fd : FuncData} (F : Fun K "row_of" "row_of" s_row_of f fd) : FnOk P w K mg base (L2.CX P w) 5 f fd [Str.ofString "words"] (spD K (XSd K) 1 (runB 7 1 b_row_of)) :=
  fn_d F sc_row_of fun cdv A outer sh H E hr => by
  have tk : Takes (cxOf (L2.CX P w) P w K mg base n_row_of "row_of" (defScope s_row_of) f cdv A outer sh H E) (fun cls d _ H => E cls d H) := takes_of rfl rfl rfl rfl
  have hp : PassesOwn (model P w) (A.deeper (PyProof.Rows.envOfC "row_of" (defScope s_row_of) sh.heap.objs.size f cdv)) (PyProof.Rows.envOfC "row_of" (defScope s_row_of) sh.heap.objs.size f cdv) (cxOf (L2.CX P w) P w K mg base n_row_of "row_of" (defScope s_row_of) f cdv A outer sh H E).xe := passes_of (X := cxOf (L2.CX P w) P w K mg base n_row_of "row_of" (defScope s_row_of) f cdv A outer sh H E) rfl
  exact (ss_cons (sset 1 sc_row_of.nd (d_tabGet0 T.t_PARTS rfl (d_ix (dv 0) d_int (fun _ _ => rfl))))
    (ss_cons (s_if (t_cmp o_is (dv 1) d_non) (ss_cons (s_ret d_non)
    ss_nil) ss_nil)
    (ss_cons (sown 2 sc_row_of.nd (l_lst a_nil))
    (ss_cons (sset 3 sc_row_of.nd (d_refL (l_slice (dv 0) (op_some d_int) op_none)))
    (ss_cons (s_for hp rfl (i_seq (dv 1)) (gn 4 sc_row_of.nd) (b := t1_row_of) (ss_cons (s_if (PW.pt (w_and (t_cmp (o_eq hr.units) (dv 4) d_str) (w_and1 (t_cmp (o_eq hr.units) (d_ix (dv 1) (d_neg d_int) (fun _ _ => rfl)) d_str)))) (ss_cons (sset 6 sc_row_of.nd (d_callV (x := "parted") F_parted tk (hr.mono (by decide)) (by rfl) (a_cons (dv 3) a_nil)))
    (ss_cons (s_if (t_cmp o_is (dv 6) d_non) (ss_cons (s_ret d_non)
    ss_nil) ss_nil)
    (ss_cons (sext 2 (dv 6))
    (ss_cons (sset 3 sc_row_of.nd (d_refL (l_lst a_nil)))
    ss_nil)))) (ss_cons (s_if (t_cmp (o_eq hr.units) (dv 4) d_str) (ss_cons (sapp 2 (d_tupR (by rfl) T.b_tuple (dv 3)))
    (ss_cons (sset 3 sc_row_of.nd (d_refL (l_lst a_nil)))
    ss_nil)) (ss_cons (s_if (t_cmp (o_ne hr.units) (dv 4) d_str) (ss_cons (s_if (t_eqNil (unitsN hr) (dv 3)) (ss_cons (s_ret d_non)
    ss_nil) ss_nil)
    (ss_cons (sapp 2 (d_callF (x := "part_of") F_part_of tk (hr.mono (by decide)) (by rfl) (a_cons (dv 4) (a_cons (d_popR (dv 3) d_int) a_nil))))
    ss_nil)) ss_nil)
    ss_nil))
    ss_nil))
    ss_nil))
    (ss_cons (s_frz 2 (sset 5 sc_row_of.nd (d_bin o_add (d_tup (a_cons (d_ix (dv 0) d_int (fun _ _ => rfl)) a_nil)) (d_callT c_tup (by rfl) T.b_tuple bt_tuple (a_cons (dv 2) a_nil)))))
    (ss_cons (s_if (PW.pt (w_or (t_neNil (unitsN hr) (dv 3)) (w_or1 (t_not (t_val (d_callF (x := "is_row") F_is_row tk (hr.mono (by decide)) (by rfl) (a_cons (dv 5) a_nil))))))) (ss_cons (s_ret d_non)
    ss_nil) ss_nil)
    (ss_cons (s_ret (dv 5))
    ss_nil))))))))
set_option maxHeartbeats 4000000 in
theorem ok_Reader__take (T : Tx K w mg C_CallersError C_NoText C_Reader) (F_leaves_in : Fn P w K mg base (XSd K) "leaves_in" 1 1 f_leaves_in) (F_row_of : Fn P w K mg base (XSd K) "row_of" 5 1 f_row_of) (M_Reader_begin : Mt P w K mg base (XSd K) "Reader" "begin" 7 3 f_Reader__begin) (M_Reader_learn : Mt P w K mg base (XSd K) "Reader" "learn" 3 3 f_Reader__learn) (X_NoText : ExFn P w K mg base "NoText" 1 [Str.ofString "row"])  {f : Addr} {fd : FuncData} (F : Fun K "take" "Reader.take" s_Reader__take f fd) : FnOk P w K mg base (L2.CX P w) 8 f fd [Str.ofString "self", Str.ofString "text", Str.ofString "at"] (spD K (XSd K) 3 (runB 5 3 b_Reader__take)) :=
  fn_d F sc_Reader__take fun cdv A outer sh H E hr => by
  have tk : Takes (cxOf (L2.CX P w) P w K mg base n_Reader__take "Reader.take" (defScope s_Reader__take) f cdv A outer sh H E) (fun cls d _ H => E cls d H) := takes_of rfl rfl rfl rfl
  have hp : PassesOwn (model P w) (A.deeper (PyProof.Rows.envOfC "Reader.take" (defScope s_Reader__take) sh.heap.objs.size f cdv)) (PyProof.Rows.envOfC "Reader.take" (defScope s_Reader__take) sh.heap.objs.size f cdv) (cxOf (L2.CX P w) P w K mg base n_Reader__take "Reader.take" (defScope s_Reader__take) f cdv A outer sh H E).xe := passes_of (X := cxOf (L2.CX P w) P w K mg base n_Reader__take "Reader.take" (defScope s_Reader__take) f cdv A outer sh H E) rfl
  exact (ss_cons (sset 3 sc_Reader__take.nd (d_new (l_split (dv 1) d_str)))
    (ss_cons (s_if (t_cmp (o_eq hr.units) (d_ix (dv 3) d_int (fun _ _ => rfl)) d_str) (ss_cons (s_expr (d_meth (m := "begin") (k := 7) (mts_cons M_Reader_begin (by decide) mts_nil) tk (hr.mono (by decide)) (dv 0) (a_cons (dv 3) (a_cons (dv 2) a_nil))))
    (ss_cons s_retN
    ss_nil)) ss_nil)
    (ss_cons (sset 4 sc_Reader__take.nd (d_callF (x := "row_of") F_row_of tk (hr.mono (by decide)) (by rfl) (a_cons (dv 3) a_nil)))
    (ss_cons (s_if (PW.pt (w_or (t_cmp o_is (d_fld (csf_cons T.oc_Reader T.ol_Reader T.on_Reader_begun csf_nil) (dv 0)) d_non) (w_or (t_cmp o_is (dv 4) d_non) (w_or1 (t_cmp (o_eq hr.units) (d_lenR (by rfl) T.b_len (d_fld (csf_cons T.oc_Reader T.ol_Reader T.on_Reader_lines csf_nil) (dv 0))) (d_gInt rfl T.c_MOST_ROWS)))))) (ss_cons (s_raise X_NoText rfl tk (hr.mono (by decide)) (by rfl) (by decide) (a_cons (dv 2) a_nil))
    ss_nil) ss_nil)
    (ss_cons (s_expr (d_meth (m := "learn") (k := 3) (mts_cons M_Reader_learn (by decide) mts_nil) tk (hr.mono (by decide)) (dv 0) (a_cons (d_callF (x := "leaves_in") F_leaves_in tk (hr.mono (by decide)) (by rfl) (a_cons (dv 4) a_nil)) (a_cons (dv 2) a_nil))))
    (ss_cons (s_appR (d_fld (csf_cons T.oc_Reader T.ol_Reader T.on_Reader_lines csf_nil) (dv 0)) (dv 4))
    ss_nil))))))
set_option maxHeartbeats 4000000 in
theorem ok_read_pieces (T : Tx K w mg C_CallersError C_NoText C_Reader)  (M_Reader_end : Mt P w K mg base (XSd K) "Reader" "end" 6 2 f_Reader__end) (M_Reader_take : Mt P w K mg base (XSd K) "Reader" "take" 8 3 f_Reader__take) (K_Reader : MkF P w K mg base (XSd K) "Reader" 1 2 f_Reader____init__) (X_NoText : ExFn P w K mg base "NoText" 1 [Str.ofString "row"])  {f : Addr} {fd : FuncData} (F : Fun K "read_pieces" "read_pieces" s_read_pieces f fd) : FnOk P w K mg base (L2.CX P w) 9 f fd [Str.ofString "text", Str.ofString "most"] (spD K (XSd K) 2 (runB 6 2 b_read_pieces)) :=
  fn_d F sc_read_pieces fun cdv A outer sh H E hr => by
  have tk : Takes (cxOf (L2.CX P w) P w K mg base n_read_pieces "read_pieces" (defScope s_read_pieces) f cdv A outer sh H E) (fun cls d _ H => E cls d H) := takes_of rfl rfl rfl rfl
  have hp : PassesOwn (model P w) (A.deeper (PyProof.Rows.envOfC "read_pieces" (defScope s_read_pieces) sh.heap.objs.size f cdv)) (PyProof.Rows.envOfC "read_pieces" (defScope s_read_pieces) sh.heap.objs.size f cdv) (cxOf (L2.CX P w) P w K mg base n_read_pieces "read_pieces" (defScope s_read_pieces) f cdv A outer sh H E).xe := passes_of (X := cxOf (L2.CX P w) P w K mg base n_read_pieces "read_pieces" (defScope s_read_pieces) f cdv A outer sh H E) rfl
  exact (ss_cons (s_if (t_not (t_val (d_callB (x := "isinstance") c_isi (by rfl) T.b_isinstance bt_isinstance (a_cons (dv 0) (a_cons (d_ty (by rfl) T.b_str bt_str) a_nil))))) (ss_cons (s_raise X_NoText rfl tk (hr.mono (by decide)) (by rfl) (by decide) (a_cons d_int a_nil))
    ss_nil) ss_nil)
    (ss_cons (sset 2 sc_read_pieces.nd (d_make (c := "Reader") K_Reader tk (hr.mono (by decide)) (by rfl) (a_cons (dv 1) a_nil)))
    (ss_cons (sset 3 sc_read_pieces.nd (d_new (l_split (dv 0) d_str)))
    (ss_cons (s_for hp rfl (i_enumerate rfl T.b_enumerate (a_cons (dv 3) a_nil)) (g_tup rfl sc_read_pieces.nd (gc 4 (gc 5 .nil))) (b := t1_read_pieces) (ss_cons (s_expr (d_meth (m := "take") (k := 8) (mts_cons M_Reader_take (by decide) mts_nil) tk (hr.mono (by decide)) (dv 2) (a_cons (dv 5) (a_cons (dv 4) a_nil))))
    ss_nil))
    (ss_cons (s_expr (d_meth (m := "end") (k := 6) (mts_cons M_Reader_end (by decide) mts_nil) tk (hr.mono (by decide)) (dv 2) (a_cons (d_callB (x := "len") c_len (by rfl) T.b_len bt_len (a_cons (dv 3) a_nil)) a_nil)))
    (ss_cons (s_ret (d_fld (csf_cons T.oc_Reader T.ol_Reader T.on_Reader_found csf_nil) (dv 2)))
    ss_nil))))))
set_option maxHeartbeats 4000000 in
theorem ok_read_book (T : Tx K w mg C_CallersError C_NoText C_Reader) (F_read_pieces : Fn P w K mg base (XSd K) "read_pieces" 9 2 f_read_pieces)  {f : Addr} {fd : FuncData} (F : Fun K "read_book" "read_book" s_read_book f fd) : FnOk P w K mg base (L2.CX P w) 10 f fd [Str.ofString "text"] (spD K (XSd K) 1 (runB 1 1 b_read_book)) :=
  fn_d F sc_read_book fun cdv A outer sh H E hr => by
  have tk : Takes (cxOf (L2.CX P w) P w K mg base n_read_book "read_book" (defScope s_read_book) f cdv A outer sh H E) (fun cls d _ H => E cls d H) := takes_of rfl rfl rfl rfl
  have hp : PassesOwn (model P w) (A.deeper (PyProof.Rows.envOfC "read_book" (defScope s_read_book) sh.heap.objs.size f cdv)) (PyProof.Rows.envOfC "read_book" (defScope s_read_book) sh.heap.objs.size f cdv) (cxOf (L2.CX P w) P w K mg base n_read_book "read_book" (defScope s_read_book) f cdv A outer sh H E).xe := passes_of (X := cxOf (L2.CX P w) P w K mg base n_read_book "read_book" (defScope s_read_book) f cdv A outer sh H E) rfl
  exact (ss_cons (s_ret (d_callF (x := "read_pieces") F_read_pieces tk (hr.mono (by decide)) (by rfl) (a_cons (dv 0) (a_cons (d_gInt rfl T.c_MOST_PIECES) a_nil))))
    ss_nil)
set_option maxHeartbeats 4000000 in
theorem ok_l_told (T : Tx K w mg C_CallersError C_NoText C_Reader) (F_read_book : Fn P w K mg base (XSd K) "read_book" 10 1 f_read_book)  {f : Addr} {fd : FuncData} (F : Fun K "_law_told" "_law_told" s_l_told f fd) : FnOk P w K mg base (L2.CX P w) 11 f fd [Str.ofString "_law_thing"] (spD K (XSd K) 1 (runB 5 1 b_l_told)) :=
  fn_d F sc_l_told fun cdv A outer sh H E hr => by
  have tk : Takes (cxOf (L2.CX P w) P w K mg base n_l_told "_law_told" (defScope s_l_told) f cdv A outer sh H E) (fun cls d _ H => E cls d H) := takes_of rfl rfl rfl rfl
  have hp : PassesOwn (model P w) (A.deeper (PyProof.Rows.envOfC "_law_told" (defScope s_l_told) sh.heap.objs.size f cdv)) (PyProof.Rows.envOfC "_law_told" (defScope s_l_told) sh.heap.objs.size f cdv) (cxOf (L2.CX P w) P w K mg base n_l_told "_law_told" (defScope s_l_told) f cdv A outer sh H E).xe := passes_of (X := cxOf (L2.CX P w) P w K mg base n_l_told "_law_told" (defScope s_l_told) f cdv A outer sh H E) rfl
  exact (ss_cons (sset 1 sc_l_told.nd d_non)
    (ss_cons (sset 2 sc_l_told.nd d_non)
    (ss_cons (s_tryF (t := [(Str.ofString "NoText", true)]) (i := 4) (j := 2) rfl rfl sc_l_told.nd rfl rfl rfl rfl ⟨by rfl, by decide, .inl T.k_NoText.mg⟩ tk (tab_cons ⟨_, T.k_NoText.at_, exm_cls T.k_NoText.ex T.k_NoText.hd T.k_NoText.ty T.s_NoText_NoText⟩ tab_nil) (tab_cons (fun _ => ⟨_, T.k_NoText.at_, xfC_of T.e_NoText, T.g_NoText_row⟩) tab_nil) (fun W pn xe tk hp => (ss_cons (sset 1 sc_l_told.nd (d_callF (x := "read_book") F_read_book tk (hr.mono (by decide)) (by rfl) (a_cons (dv 0) a_nil)))
    ss_nil)))
    (ss_cons (s_if (t_cmp o_is (dv 1) d_non) (ss_cons (s_ret (dv 2))
    ss_nil) ss_nil)
    (ss_cons (s_ret (d_new (l_compV (own := [("_law_piece", 3)]) rfl sc_l_told.nd (dv 1) (blkOk_by (N := n_l_told) (sc := defScope s_l_told) (by decide +kernel)) (hvs_N (by decide)) (fun _ _ _ _ _ => (gn 3 sc_l_told.nd)) (fun _ _ _ _ _ => ts_nil) (fun _ _ _ _ _ => (d_callB (x := "len") c_len (by rfl) T.b_len bt_len (a_cons (d_ix (dv 3) d_int (fun _ _ => rfl)) a_nil))))))
    ss_nil)))))
set_option maxHeartbeats 4000000 in
theorem ok_l_word (T : Tx K w mg C_CallersError C_NoText C_Reader)   {f : Addr} {fd : FuncData} (F : Fun K "_law_word" "_law_word" s_l_word f fd) : FnOk P w K mg base (L2.CX P w) 1 f fd [Str.ofString "_law_number"] (spD K (XSd K) 1 (runB 2 1 b_l_word)) :=
  fn_d F sc_l_word fun cdv A outer sh H E hr => by
  have tk : Takes (cxOf (L2.CX P w) P w K mg base n_l_word "_law_word" (defScope s_l_word) f cdv A outer sh H E) (fun cls d _ H => E cls d H) := takes_of rfl rfl rfl rfl
  have hp : PassesOwn (model P w) (A.deeper (PyProof.Rows.envOfC "_law_word" (defScope s_l_word) sh.heap.objs.size f cdv)) (PyProof.Rows.envOfC "_law_word" (defScope s_l_word) sh.heap.objs.size f cdv) (cxOf (L2.CX P w) P w K mg base n_l_word "_law_word" (defScope s_l_word) f cdv A outer sh H E).xe := passes_of (X := cxOf (L2.CX P w) P w K mg base n_l_word "_law_word" (defScope s_l_word) f cdv A outer sh H E) rfl
  exact (ss_cons (sset 1 sc_l_word.nd d_str)
    (ss_cons (s_ret (d_bin o_add (d_ix (dv 1) (d_bin o_mod (dv 0) d_int) (fun _ _ => rfl)) (d_bin o_mulS (d_ix (dv 1) (d_bin o_mod (d_bin o_fdiv (dv 0) d_int) d_int) (fun _ _ => rfl)) (d_bin o_mod (dv 0) d_int))))
    ss_nil))
set_option maxHeartbeats 4000000 in
theorem ok_l_leaves (T : Tx K w mg C_CallersError C_NoText C_Reader) (F_l_draw : Fn P w K mg base (XSd K) "_law_draw" 1 2 f_l_draw) (F_l_told : Fn P w K mg base (XSd K) "_law_told" 11 1 f_l_told) (F_l_word : Fn P w K mg base (XSd K) "_law_word" 1 1 f_l_word)  {f : Addr} {fd : FuncData} (F : Fun K "_law_leaves" "_law_leaves" s_l_leaves f fd) : FnOk P w K mg base (L2.CX P w) 12 f fd [Str.ofString "_law_hand_here"] (spD K (XSd K) 1 (runB 11 1 b_l_leaves)) :=
  fn_d F sc_l_leaves fun cdv A outer sh H E hr => by
  have tk : Takes (cxOf (L2.CX P w) P w K mg base n_l_leaves "_law_leaves" (defScope s_l_leaves) f cdv A outer sh H E) (fun cls d _ H => E cls d H) := takes_of rfl rfl rfl rfl
  have hp : PassesOwn (model P w) (A.deeper (PyProof.Rows.envOfC "_law_leaves" (defScope s_l_leaves) sh.heap.objs.size f cdv)) (PyProof.Rows.envOfC "_law_leaves" (defScope s_l_leaves) sh.heap.objs.size f cdv) (cxOf (L2.CX P w) P w K mg base n_l_leaves "_law_leaves" (defScope s_l_leaves) f cdv A outer sh H E).xe := passes_of (X := cxOf (L2.CX P w) P w K mg base n_l_leaves "_law_leaves" (defScope s_l_leaves) f cdv A outer sh H E) rfl
  exact (ss_cons (sset 1 sc_l_leaves.nd (d_bin o_add d_int (d_callF (x := "_law_draw") F_l_draw tk (hr.mono (by decide)) (by rfl) (a_cons (dv 0) (a_cons d_int a_nil)))))
    (ss_cons (sset 2 sc_l_leaves.nd (d_callF (x := "_law_draw") F_l_draw tk (hr.mono (by decide)) (by rfl) (a_cons (dv 0) (a_cons d_int a_nil))))
    (ss_cons (s_setLcV (own := [("_law_k", 10)]) rfl sc_l_leaves.nd (i := 3) rfl rfl (sw_true rfl rfl rfl (by decide +kernel)) (i_range1 rfl T.b_range (a_cons (dv 1) a_nil)) (blkOk_by (N := n_l_leaves) (sc := defScope s_l_leaves) (by decide +kernel)) (hvs_N (by decide)) (fun _ _ _ _ _ => (gn 10 sc_l_leaves.nd)) (fun _ _ _ _ _ => ts_nil) (fun _ _ _ _ _ => (d_callF (x := "_law_word") F_l_word takes0 (hr.mono (by decide)) (by rfl) (a_cons (d_bin o_add (dv 2) (dv 10)) a_nil))))
    (ss_cons (sset 4 sc_l_leaves.nd (d_new (l_sorted (by rfl) T.b_sorted (d_slice (dv 3) op_none (op_some (d_callF (x := "_law_draw") F_l_draw tk (hr.mono (by decide)) (by rfl) (a_cons (dv 0) (a_cons d_int a_nil))))))))
    (ss_cons (sown 5 sc_l_leaves.nd (l_lst (a_cons (d_bin o_add d_str (d_join d_str (dv 4))) a_nil)))
    (ss_cons (s_if (t_cmp (o_eq hr.units) (dv 4) (d_lst a_nil)) (ss_cons (sown 5 sc_l_leaves.nd (l_lst (a_cons d_str a_nil)))
    ss_nil) ss_nil)
    (ss_cons (sset 6 sc_l_leaves.nd (d_callB (x := "len") c_len (by rfl) T.b_len bt_len (a_cons (dv 4) a_nil)))
    (ss_cons (sset 7 sc_l_leaves.nd d_non)
    (ss_cons (s_for hp rfl (i_seq (dv 3)) (gn 8 sc_l_leaves.nd) (b := t1_l_leaves) (ss_cons (sown 9 sc_l_leaves.nd (l_lst (a_cons (d_bin o_add (d_bin o_add d_str (dv 8)) d_str) (a_cons (d_bin o_add (d_bin o_add d_str (dv 8)) d_str) (a_cons (d_bin o_add (d_bin o_add d_str (dv 8)) d_str) (a_cons (d_bin o_add d_str (dv 8)) a_nil))))))
    (ss_cons (sapp 9 (d_bin o_add d_str (dv 8)))
    (ss_cons (s_frz 9 (sapp 5 (d_ix (dv 9) (d_callF (x := "_law_draw") F_l_draw tk (hr.mono (by decide)) (by rfl) (a_cons (dv 0) (a_cons d_int a_nil))) (fun _ _ => rfl))))
    (ss_cons (sset 6 sc_l_leaves.nd (d_bin o_add (dv 6) (d_callT c_int (by rfl) T.b_int bt_int (a_cons (d_cmp (o_nin (u65 hr)) (dv 8) (dv 4)) a_nil))))
    (ss_cons (s_if (PW.pt (w_and (t_cmp (o_eq hr.units) (dv 6) d_int) (w_and1 (t_cmp o_is (dv 7) d_non)))) (ss_cons (sset 7 sc_l_leaves.nd (d_bin o_sub (d_lenO 5 (by rfl) T.b_len) d_int))
    ss_nil) ss_nil)
    ss_nil))))))
    (ss_cons (sapp 5 d_str)
    (ss_cons (s_if (t_cmp o_is (dv 7) d_non) (ss_cons (sset 7 sc_l_leaves.nd (d_lst (a_cons (d_bin o_sub (d_lenO 5 (by rfl) T.b_len) d_int) a_nil)))
    ss_nil) ss_nil)
    (ss_cons (s_frz 5 (s_ret (d_cmp (o_eq hr.units) (d_callF (x := "_law_told") F_l_told tk (hr.mono (by decide)) (by rfl) (a_cons (d_join d_str (dv 5)) a_nil)) (dv 7))))
    ss_nil))))))))))))
set_option maxHeartbeats 4000000 in
theorem ok_l_pieces (T : Tx K w mg C_CallersError C_NoText C_Reader) (F_l_draw : Fn P w K mg base (XSd K) "_law_draw" 1 2 f_l_draw) (F_l_told : Fn P w K mg base (XSd K) "_law_told" 11 1 f_l_told) (F_l_word : Fn P w K mg base (XSd K) "_law_word" 1 1 f_l_word)  {f : Addr} {fd : FuncData} (F : Fun K "_law_pieces" "_law_pieces" s_l_pieces f fd) : FnOk P w K mg base (L2.CX P w) 12 f fd [Str.ofString "_law_hand_here"] (spD K (XSd K) 1 (runB 7 1 b_l_pieces)) :=
  fn_d F sc_l_pieces fun cdv A outer sh H E hr => by
  have tk : Takes (cxOf (L2.CX P w) P w K mg base n_l_pieces "_law_pieces" (defScope s_l_pieces) f cdv A outer sh H E) (fun cls d _ H => E cls d H) := takes_of rfl rfl rfl rfl
  have hp : PassesOwn (model P w) (A.deeper (PyProof.Rows.envOfC "_law_pieces" (defScope s_l_pieces) sh.heap.objs.size f cdv)) (PyProof.Rows.envOfC "_law_pieces" (defScope s_l_pieces) sh.heap.objs.size f cdv) (cxOf (L2.CX P w) P w K mg base n_l_pieces "_law_pieces" (defScope s_l_pieces) f cdv A outer sh H E).xe := passes_of (X := cxOf (L2.CX P w) P w K mg base n_l_pieces "_law_pieces" (defScope s_l_pieces) f cdv A outer sh H E) rfl
  exact (ss_cons (sset 1 sc_l_pieces.nd (d_bin o_add d_int (d_callF (x := "_law_draw") F_l_draw tk (hr.mono (by decide)) (by rfl) (a_cons (dv 0) (a_cons d_int a_nil)))))
    (ss_cons (sset 2 sc_l_pieces.nd (d_callF (x := "_law_draw") F_l_draw tk (hr.mono (by decide)) (by rfl) (a_cons (dv 0) (a_cons d_int a_nil))))
    (ss_cons (sown 3 sc_l_pieces.nd (l_lst a_nil))
    (ss_cons (s_for hp rfl (i_range1 rfl T.b_range (a_cons (dv 1) a_nil)) (gn 4 sc_l_pieces.nd) (b := t1_l_pieces) (ss_cons (s_frz 3 (sown 3 sc_l_pieces.nd (l_cat (dv 3) (d_lst (a_cons (d_bin o_add (d_bin o_add d_str (d_callF (x := "_law_word") F_l_word tk (hr.mono (by decide)) (by rfl) (a_cons (d_bin o_add (dv 2) (dv 4)) a_nil))) d_str) (a_cons d_str a_nil))))))
    ss_nil))
    (ss_cons (sset 5 sc_l_pieces.nd (d_ix (d_lst (a_cons (d_bin o_mul (d_lst (a_cons d_int a_nil)) (dv 1)) (a_cons d_int a_nil))) (d_callT c_int (by rfl) T.b_int bt_int (a_cons (d_cmp (o_eq hr.units) (dv 1) d_int) a_nil)) (fun _ _ => rfl)))
    (ss_cons (s_if (PW.pt (w_and (t_cmp (o_eq hr.units) (d_callF (x := "_law_draw") F_l_draw tk (hr.mono (by decide)) (by rfl) (a_cons (dv 0) (a_cons d_int a_nil))) d_int) (w_and1 (t_cmp o_gt (dv 1) d_int)))) (ss_cons (sset 6 sc_l_pieces.nd (d_bin o_add d_int (d_callF (x := "_law_draw") F_l_draw tk (hr.mono (by decide)) (by rfl) (a_cons (dv 0) (a_cons (d_bin o_sub (dv 1) d_int) a_nil)))))
    (ss_cons (s_ixO (i := 3) (d_bin o_mul d_int (dv 6)) (d_ixO 3 (d_bin o_mul d_int (d_callF (x := "_law_draw") F_l_draw tk (hr.mono (by decide)) (by rfl) (a_cons (dv 0) (a_cons (dv 6) a_nil)))) (fun _ _ => rfl)))
    (ss_cons (sset 5 sc_l_pieces.nd (d_callB (x := "min") (c_min rfl) (by rfl) T.b_min bt_min (a_cons d_int (a_cons (d_bin o_mul d_int (dv 6)) a_nil))))
    ss_nil))) ss_nil)
    (ss_cons (s_frz 3 (s_ret (d_cmp (o_eq hr.units) (d_callF (x := "_law_told") F_l_told tk (hr.mono (by decide)) (by rfl) (a_cons (d_join d_str (dv 3)) a_nil)) (dv 5))))
    ss_nil)))))))
set_option maxHeartbeats 4000000 in
theorem ok_l_rows (T : Tx K w mg C_CallersError C_NoText C_Reader) (F_l_draw : Fn P w K mg base (XSd K) "_law_draw" 1 2 f_l_draw) (F_l_told : Fn P w K mg base (XSd K) "_law_told" 11 1 f_l_told)  {f : Addr} {fd : FuncData} (F : Fun K "_law_rows" "_law_rows" s_l_rows f fd) : FnOk P w K mg base (L2.CX P w) 12 f fd [Str.ofString "_law_hand_here"] (spD K (XSd K) 1 (runB 9 1 b_l_rows)) :=
  fn_d F sc_l_rows fun cdv A outer sh H E hr => by
  have tk : Takes (cxOf (L2.CX P w) P w K mg base n_l_rows "_law_rows" (defScope s_l_rows) f cdv A outer sh H E) (fun cls d _ H => E cls d H) := takes_of rfl rfl rfl rfl
  have hp : PassesOwn (model P w) (A.deeper (PyProof.Rows.envOfC "_law_rows" (defScope s_l_rows) sh.heap.objs.size f cdv)) (PyProof.Rows.envOfC "_law_rows" (defScope s_l_rows) sh.heap.objs.size f cdv) (cxOf (L2.CX P w) P w K mg base n_l_rows "_law_rows" (defScope s_l_rows) f cdv A outer sh H E).xe := passes_of (X := cxOf (L2.CX P w) P w K mg base n_l_rows "_law_rows" (defScope s_l_rows) f cdv A outer sh H E) rfl
  exact (ss_cons (sset 1 sc_l_rows.nd (d_bin o_add d_int (d_callF (x := "_law_draw") F_l_draw tk (hr.mono (by decide)) (by rfl) (a_cons (dv 0) (a_cons d_int a_nil)))))
    (ss_cons (sset 2 sc_l_rows.nd (d_callF (x := "_law_draw") F_l_draw tk (hr.mono (by decide)) (by rfl) (a_cons (dv 0) (a_cons (dv 1) a_nil))))
    (ss_cons (sset 3 sc_l_rows.nd (d_ix (d_lst (a_cons (d_bin o_sub (d_bin o_sub (dv 1) d_int) (dv 2)) (a_cons (d_bin o_sub (dv 1) (dv 2)) (a_cons (d_bin o_pow d_int d_int) a_nil)))) (d_callF (x := "_law_draw") F_l_draw tk (hr.mono (by decide)) (by rfl) (a_cons (dv 0) (a_cons d_int a_nil))) (fun _ _ => rfl)))
    (ss_cons (sset 4 sc_l_rows.nd (d_ix (d_lst (a_cons d_str (a_cons d_str (a_cons d_str a_nil)))) (d_callF (x := "_law_draw") F_l_draw tk (hr.mono (by decide)) (by rfl) (a_cons (dv 0) (a_cons d_int a_nil))) (fun _ _ => rfl)))
    (ss_cons (sown 5 sc_l_rows.nd (l_mul (d_lst (a_cons d_str a_nil)) (dv 1)))
    (ss_cons (sset 6 sc_l_rows.nd (d_ix (d_lst (a_cons (d_lst (a_cons (dv 1) a_nil)) (a_cons d_int a_nil))) (d_callT c_int (by rfl) T.b_int bt_int (a_cons (d_cmp o_gt (dv 1) d_int) a_nil)) (fun _ _ => rfl)))
    (ss_cons (s_if (t_cmp o_gt (dv 3) d_int) (ss_cons (s_ixO (i := 5) (dv 2) (d_bin o_add (dv 4) (d_callT c_str (by rfl) T.b_str bt_str (a_cons (dv 3) a_nil))))
    (ss_cons (s_if (PW.pt (w_and (t_cmp o_lt (dv 1) d_int) (w_and1 (t_cmp o_ge (dv 3) (d_bin o_sub (dv 1) (dv 2)))))) (ss_cons (sset 6 sc_l_rows.nd (d_bin o_add d_int (dv 2)))
    ss_nil) ss_nil)
    ss_nil)) ss_nil)
    (ss_cons (s_frz 5 (sset 7 sc_l_rows.nd (d_join d_str (d_bin o_add (d_lst (a_cons d_str a_nil)) (dv 5)))))
    (ss_cons (s_if (t_cmp (o_ne hr.units) (d_callF (x := "_law_told") F_l_told tk (hr.mono (by decide)) (by rfl) (a_cons (dv 7) a_nil)) (dv 6)) (ss_cons (s_ret d_bl)
    ss_nil) ss_nil)
    (ss_cons (s_if (t_val (d_callB (x := "isinstance") c_isi (by rfl) T.b_isinstance bt_isinstance (a_cons (dv 6) (a_cons (d_ty (by rfl) T.b_list bt_list) a_nil)))) (ss_cons (sset 6 sc_l_rows.nd (d_bin o_add (dv 6) (d_lst (a_cons d_int a_nil))))
    (ss_cons (s_ret (d_and (d_cmp (o_eq hr.units) (d_callF (x := "_law_told") F_l_told tk (hr.mono (by decide)) (by rfl) (a_cons (d_bin o_add (dv 7) d_str) a_nil)) (dv 6)) (d_one (d_cmp (o_eq hr.units) (d_callF (x := "_law_told") F_l_told tk (hr.mono (by decide)) (by rfl) (a_cons (d_bin o_add (dv 7) d_str) a_nil)) (d_bin o_add (dv 1) d_int)))))
    ss_nil)) ss_nil)
    (ss_cons (sset 8 sc_l_rows.nd (d_ix (d_lst (a_cons (d_bin o_add (dv 1) d_int) (a_cons d_int a_nil))) (d_callT c_int (by rfl) T.b_int bt_int (a_cons (d_cmp o_gt (dv 1) d_int) a_nil)) (fun _ _ => rfl)))
    (ss_cons (s_ret (d_and (d_cmp (o_eq hr.units) (d_callF (x := "_law_told") F_l_told tk (hr.mono (by decide)) (by rfl) (a_cons (d_bin o_add (dv 7) d_str) a_nil)) (dv 6)) (d_one (d_cmp (o_eq hr.units) (d_callF (x := "_law_told") F_l_told tk (hr.mono (by decide)) (by rfl) (a_cons (d_bin o_add (dv 7) d_str) a_nil)) (dv 8)))))
    ss_nil))))))))))))
set_option maxHeartbeats 4000000 in
theorem ok_law (T : Tx K w mg C_CallersError C_NoText C_Reader) (F_l_hand : Fn P w K mg base (XSd K) "_law_hand" 1 2 f_l_hand) (F_l_leaves : Fn P w K mg base (XSd K) "_law_leaves" 12 1 f_l_leaves) (F_l_pieces : Fn P w K mg base (XSd K) "_law_pieces" 12 1 f_l_pieces) (F_l_rows : Fn P w K mg base (XSd K) "_law_rows" 12 1 f_l_rows) (F_l_told : Fn P w K mg base (XSd K) "_law_told" 11 1 f_l_told)  {f : Addr} {fd : FuncData} (F : Fun K "law" "law" s_law f fd) : FnOk P w K mg base (L2.CX P w) 13 f fd [Str.ofString "_law_script"] (spD K (XSd K) 1 (runB 4 1 b_law)) :=
  fn_d F sc_law fun cdv A outer sh H E hr => by
  have tk : Takes (cxOf (L2.CX P w) P w K mg base n_law "law" (defScope s_law) f cdv A outer sh H E) (fun cls d _ H => E cls d H) := takes_of rfl rfl rfl rfl
  have hp : PassesOwn (model P w) (A.deeper (PyProof.Rows.envOfC "law" (defScope s_law) sh.heap.objs.size f cdv)) (PyProof.Rows.envOfC "law" (defScope s_law) sh.heap.objs.size f cdv) (cxOf (L2.CX P w) P w K mg base n_law "law" (defScope s_law) f cdv A outer sh H E).xe := passes_of (X := cxOf (L2.CX P w) P w K mg base n_law "law" (defScope s_law) f cdv A outer sh H E) rfl
  exact (ss_cons (s_for hp rfl (i_seq (d_lst (a_cons d_non (a_cons d_int (a_cons d_bl (a_cons (d_lst a_nil) (a_cons d_dict0 (a_cons (d_tup (a_cons d_str (a_cons d_str a_nil))) (a_cons (d_lst (a_cons d_str (a_cons d_str a_nil))) (a_cons d_str (a_cons d_str (a_cons d_str (a_cons d_str (a_cons d_str a_nil)))))))))))))) (gn 1 sc_law.nd) (b := t1_law) (ss_cons (s_if (t_cmp (o_ne hr.units) (d_callF (x := "_law_told") F_l_told tk (hr.mono (by decide)) (by rfl) (a_cons (dv 1) a_nil)) d_int) (ss_cons (s_ret d_bl)
    ss_nil) ss_nil)
    ss_nil))
    (ss_cons (s_if (PW.pt (w_or (t_cmp (o_ne hr.units) (d_callF (x := "_law_told") F_l_told tk (hr.mono (by decide)) (by rfl) (a_cons d_str a_nil)) d_int) (w_or (t_cmp (o_ne hr.units) (d_callF (x := "_law_told") F_l_told tk (hr.mono (by decide)) (by rfl) (a_cons d_str a_nil)) d_int) (w_or1 (t_cmp (o_ne hr.units) (d_callF (x := "_law_told") F_l_told tk (hr.mono (by decide)) (by rfl) (a_cons d_str a_nil)) d_int))))) (ss_cons (s_ret d_bl)
    ss_nil) ss_nil)
    (ss_cons (s_if (PW.pt (w_or (t_cmp (o_ne hr.units) (d_callF (x := "_law_told") F_l_told tk (hr.mono (by decide)) (by rfl) (a_cons d_str a_nil)) d_int) (w_or1 (t_cmp (o_ne hr.units) (d_callF (x := "_law_told") F_l_told tk (hr.mono (by decide)) (by rfl) (a_cons d_str a_nil)) d_int)))) (ss_cons (s_ret d_bl)
    ss_nil) ss_nil)
    (ss_cons (s_for hp rfl (i_range1 rfl T.b_range (a_cons (d_callB (x := "max") (c_max rfl) (by rfl) T.b_max bt_max (a_cons d_int (a_cons (d_callB (x := "min") (c_min rfl) (by rfl) T.b_min bt_min (a_cons (d_callB (x := "len") c_len (by rfl) T.b_len bt_len (a_cons (dv 0) a_nil)) (a_cons d_int a_nil))) a_nil))) a_nil)) (gn 2 sc_law.nd) (b := t2_law) (ss_cons (sset 3 sc_law.nd (d_callF (x := "_law_hand") F_l_hand tk (hr.mono (by decide)) (by rfl) (a_cons (dv 0) (a_cons (dv 2) a_nil))))
    (ss_cons (s_if (PW.pt (w_or (t_not (t_val (d_callF (x := "_law_pieces") F_l_pieces tk (hr.mono (by decide)) (by rfl) (a_cons (dv 3) a_nil)))) (w_or (t_not (t_val (d_callF (x := "_law_rows") F_l_rows tk (hr.mono (by decide)) (by rfl) (a_cons (dv 3) a_nil)))) (w_or1 (t_not (t_val (d_callF (x := "_law_leaves") F_l_leaves tk (hr.mono (by decide)) (by rfl) (a_cons (dv 3) a_nil)))))))) (ss_cons (s_ret d_bl)
    ss_nil) ss_nil)
    ss_nil)))
    (ss_cons (s_ret d_bl)
    ss_nil)))))
end
set_option maxHeartbeats 0 in
theorem all_mk {l : PySem.W.OpenLaw} {w : World} {K : PySem.W.Frag} {h : Heap} {mg : Str → Option Value} {fa : Addr} {C_CallersError C_NoText C_Reader : Addr} (X : K.In h) (G : h.Ns mainGlobals mg) (hfa : mg "law" = some (.ref fa))
    {f0 : Addr} {od0 an0 : Option Addr} {sl0 : Array (Option Value)} {oc0 kV0 dc0 pm0 cd0 ct0 : Value}
    (a0 : PySem.W.nsIn K mainGlobals "_law_hand" = some (some (.ref f0))) (l0 : K.lookup f0 = some ⟨oc0, od0, .func (PySem.W.fnOf "_law_hand" "_law_hand" (defArgs s_l_hand) (defBody s_l_hand) (defScope s_l_hand) .none kV0 dc0 pm0 an0 cd0 ct0), sl0⟩) (c0 : PySem.W.codeIn K cd0 "_law_hand" = true) (k0 : PySem.W.keepIn K (.ref f0) = true)
    {f1 : Addr} {od1 an1 : Option Addr} {sl1 : Array (Option Value)} {oc1 kV1 dc1 pm1 cd1 ct1 : Value}
    (a1 : PySem.W.nsIn K mainGlobals "_law_draw" = some (some (.ref f1))) (l1 : K.lookup f1 = some ⟨oc1, od1, .func (PySem.W.fnOf "_law_draw" "_law_draw" (defArgs s_l_draw) (defBody s_l_draw) (defScope s_l_draw) .none kV1 dc1 pm1 an1 cd1 ct1), sl1⟩) (c1 : PySem.W.codeIn K cd1 "_law_draw" = true) (k1 : PySem.W.keepIn K (.ref f1) = true)
    {f2 : Addr} {od2 an2 : Option Addr} {sl2 : Array (Option Value)} {oc2 kV2 dc2 pm2 cd2 ct2 : Value}
    (l2 : K.lookup f2 = some ⟨oc2, od2, .func (PySem.W.fnOf "__init__" "Reader.__init__" (defArgs s_Reader____init__) (defBody s_Reader____init__) (defScope s_Reader____init__) .none kV2 dc2 pm2 an2 cd2 ct2), sl2⟩) (c2 : PySem.W.codeIn K cd2 "Reader.__init__" = true) (k2 : PySem.W.keepIn K (.ref f2) = true)
    {f3 : Addr} {od3 an3 : Option Addr} {sl3 : Array (Option Value)} {oc3 kV3 dc3 pm3 cd3 ct3 : Value}
    (a3 : PySem.W.nsIn K mainGlobals "goes_over" = some (some (.ref f3))) (l3 : K.lookup f3 = some ⟨oc3, od3, .func (PySem.W.fnOf "goes_over" "goes_over" (defArgs s_goes_over) (defBody s_goes_over) (defScope s_goes_over) .none kV3 dc3 pm3 an3 cd3 ct3), sl3⟩) (c3 : PySem.W.codeIn K cd3 "goes_over" = true) (k3 : PySem.W.keepIn K (.ref f3) = true)
    {f4 : Addr} {od4 an4 : Option Addr} {sl4 : Array (Option Value)} {oc4 kV4 dc4 pm4 cd4 ct4 : Value}
    (a4 : PySem.W.nsIn K mainGlobals "is_word" = some (some (.ref f4))) (l4 : K.lookup f4 = some ⟨oc4, od4, .func (PySem.W.fnOf "is_word" "is_word" (defArgs s_is_word) (defBody s_is_word) (defScope s_is_word) .none kV4 dc4 pm4 an4 cd4 ct4), sl4⟩) (c4 : PySem.W.codeIn K cd4 "is_word" = true) (k4 : PySem.W.keepIn K (.ref f4) = true)
    {f5 : Addr} {od5 an5 : Option Addr} {sl5 : Array (Option Value)} {oc5 kV5 dc5 pm5 cd5 ct5 : Value}
    (a5 : PySem.W.nsIn K mainGlobals "are_args" = some (some (.ref f5))) (l5 : K.lookup f5 = some ⟨oc5, od5, .func (PySem.W.fnOf "are_args" "are_args" (defArgs s_are_args) (defBody s_are_args) (defScope s_are_args) .none kV5 dc5 pm5 an5 cd5 ct5), sl5⟩) (c5 : PySem.W.codeIn K cd5 "are_args" = true) (k5 : PySem.W.keepIn K (.ref f5) = true)
    {f6 : Addr} {od6 an6 : Option Addr} {sl6 : Array (Option Value)} {oc6 kV6 dc6 pm6 cd6 ct6 : Value}
    (a6 : PySem.W.nsIn K mainGlobals "are_leaves" = some (some (.ref f6))) (l6 : K.lookup f6 = some ⟨oc6, od6, .func (PySem.W.fnOf "are_leaves" "are_leaves" (defArgs s_are_leaves) (defBody s_are_leaves) (defScope s_are_leaves) .none kV6 dc6 pm6 an6 cd6 ct6), sl6⟩) (c6 : PySem.W.codeIn K cd6 "are_leaves" = true) (k6 : PySem.W.keepIn K (.ref f6) = true)
    {f7 : Addr} {od7 an7 : Option Addr} {sl7 : Array (Option Value)} {oc7 kV7 dc7 pm7 cd7 ct7 : Value}
    (a7 : PySem.W.nsIn K mainGlobals "is_whole" = some (some (.ref f7))) (l7 : K.lookup f7 = some ⟨oc7, od7, .func (PySem.W.fnOf "is_whole" "is_whole" (defArgs s_is_whole) (defBody s_is_whole) (defScope s_is_whole) .none kV7 dc7 pm7 an7 cd7 ct7), sl7⟩) (c7 : PySem.W.codeIn K cd7 "is_whole" = true) (k7 : PySem.W.keepIn K (.ref f7) = true)
    {f8 : Addr} {od8 an8 : Option Addr} {sl8 : Array (Option Value)} {oc8 kV8 dc8 pm8 cd8 ct8 : Value}
    (a8 : PySem.W.nsIn K mainGlobals "is_number" = some (some (.ref f8))) (l8 : K.lookup f8 = some ⟨oc8, od8, .func (PySem.W.fnOf "is_number" "is_number" (defArgs s_is_number) (defBody s_is_number) (defScope s_is_number) .none kV8 dc8 pm8 an8 cd8 ct8), sl8⟩) (c8 : PySem.W.codeIn K cd8 "is_number" = true) (k8 : PySem.W.keepIn K (.ref f8) = true)
    {f9 : Addr} {od9 an9 : Option Addr} {sl9 : Array (Option Value)} {oc9 kV9 dc9 pm9 cd9 ct9 : Value}
    (a9 : PySem.W.nsIn K mainGlobals "is_part" = some (some (.ref f9))) (l9 : K.lookup f9 = some ⟨oc9, od9, .func (PySem.W.fnOf "is_part" "is_part" (defArgs s_is_part) (defBody s_is_part) (defScope s_is_part) .none kV9 dc9 pm9 an9 cd9 ct9), sl9⟩) (c9 : PySem.W.codeIn K cd9 "is_part" = true) (k9 : PySem.W.keepIn K (.ref f9) = true)
    {f10 : Addr} {od10 an10 : Option Addr} {sl10 : Array (Option Value)} {oc10 kV10 dc10 pm10 cd10 ct10 : Value}
    (a10 : PySem.W.nsIn K mainGlobals "is_row" = some (some (.ref f10))) (l10 : K.lookup f10 = some ⟨oc10, od10, .func (PySem.W.fnOf "is_row" "is_row" (defArgs s_is_row) (defBody s_is_row) (defScope s_is_row) .none kV10 dc10 pm10 an10 cd10 ct10), sl10⟩) (c10 : PySem.W.codeIn K cd10 "is_row" = true) (k10 : PySem.W.keepIn K (.ref f10) = true)
    {f11 : Addr} {od11 an11 : Option Addr} {sl11 : Array (Option Value)} {oc11 kV11 dc11 pm11 cd11 ct11 : Value}
    (a11 : PySem.W.nsIn K mainGlobals "bad_row" = some (some (.ref f11))) (l11 : K.lookup f11 = some ⟨oc11, od11, .func (PySem.W.fnOf "bad_row" "bad_row" (defArgs s_bad_row) (defBody s_bad_row) (defScope s_bad_row) .none kV11 dc11 pm11 an11 cd11 ct11), sl11⟩) (c11 : PySem.W.codeIn K cd11 "bad_row" = true) (k11 : PySem.W.keepIn K (.ref f11) = true)
    {f12 : Addr} {od12 an12 : Option Addr} {sl12 : Array (Option Value)} {oc12 kV12 dc12 pm12 cd12 ct12 : Value}
    (l12 : K.lookup f12 = some ⟨oc12, od12, .func (PySem.W.fnOf "end" "Reader.end" (defArgs s_Reader__end) (defBody s_Reader__end) (defScope s_Reader__end) .none kV12 dc12 pm12 an12 cd12 ct12), sl12⟩) (c12 : PySem.W.codeIn K cd12 "Reader.end" = true) (k12 : PySem.W.keepIn K (.ref f12) = true)
    {f13 : Addr} {od13 an13 : Option Addr} {sl13 : Array (Option Value)} {oc13 kV13 dc13 pm13 cd13 ct13 : Value}
    (l13 : K.lookup f13 = some ⟨oc13, od13, .func (PySem.W.fnOf "learn" "Reader.learn" (defArgs s_Reader__learn) (defBody s_Reader__learn) (defScope s_Reader__learn) .none kV13 dc13 pm13 an13 cd13 ct13), sl13⟩) (c13 : PySem.W.codeIn K cd13 "Reader.learn" = true) (k13 : PySem.W.keepIn K (.ref f13) = true)
    {f14 : Addr} {od14 an14 : Option Addr} {sl14 : Array (Option Value)} {oc14 kV14 dc14 pm14 cd14 ct14 : Value}
    (a14 : PySem.W.nsIn K mainGlobals "is_head" = some (some (.ref f14))) (l14 : K.lookup f14 = some ⟨oc14, od14, .func (PySem.W.fnOf "is_head" "is_head" (defArgs s_is_head) (defBody s_is_head) (defScope s_is_head) .none kV14 dc14 pm14 an14 cd14 ct14), sl14⟩) (c14 : PySem.W.codeIn K cd14 "is_head" = true) (k14 : PySem.W.keepIn K (.ref f14) = true)
    {f15 : Addr} {od15 an15 : Option Addr} {sl15 : Array (Option Value)} {oc15 kV15 dc15 pm15 cd15 ct15 : Value}
    (a15 : PySem.W.nsIn K mainGlobals "parted" = some (some (.ref f15))) (l15 : K.lookup f15 = some ⟨oc15, od15, .func (PySem.W.fnOf "parted" "parted" (defArgs s_parted) (defBody s_parted) (defScope s_parted) .none kV15 dc15 pm15 an15 cd15 ct15), sl15⟩) (c15 : PySem.W.codeIn K cd15 "parted" = true) (k15 : PySem.W.keepIn K (.ref f15) = true)
    {f16 : Addr} {od16 an16 : Option Addr} {sl16 : Array (Option Value)} {oc16 kV16 dc16 pm16 cd16 ct16 : Value}
    (a16 : PySem.W.nsIn K mainGlobals "head_of" = some (some (.ref f16))) (l16 : K.lookup f16 = some ⟨oc16, od16, .func (PySem.W.fnOf "head_of" "head_of" (defArgs s_head_of) (defBody s_head_of) (defScope s_head_of) .none kV16 dc16 pm16 an16 cd16 ct16), sl16⟩) (c16 : PySem.W.codeIn K cd16 "head_of" = true) (k16 : PySem.W.keepIn K (.ref f16) = true)
    {f17 : Addr} {od17 an17 : Option Addr} {sl17 : Array (Option Value)} {oc17 kV17 dc17 pm17 cd17 ct17 : Value}
    (l17 : K.lookup f17 = some ⟨oc17, od17, .func (PySem.W.fnOf "begin" "Reader.begin" (defArgs s_Reader__begin) (defBody s_Reader__begin) (defScope s_Reader__begin) .none kV17 dc17 pm17 an17 cd17 ct17), sl17⟩) (c17 : PySem.W.codeIn K cd17 "Reader.begin" = true) (k17 : PySem.W.keepIn K (.ref f17) = true)
    {f18 : Addr} {od18 an18 : Option Addr} {sl18 : Array (Option Value)} {oc18 kV18 dc18 pm18 cd18 ct18 : Value}
    (a18 : PySem.W.nsIn K mainGlobals "leaves_in" = some (some (.ref f18))) (l18 : K.lookup f18 = some ⟨oc18, od18, .func (PySem.W.fnOf "leaves_in" "leaves_in" (defArgs s_leaves_in) (defBody s_leaves_in) (defScope s_leaves_in) .none kV18 dc18 pm18 an18 cd18 ct18), sl18⟩) (c18 : PySem.W.codeIn K cd18 "leaves_in" = true) (k18 : PySem.W.keepIn K (.ref f18) = true)
    {f19 : Addr} {od19 an19 : Option Addr} {sl19 : Array (Option Value)} {oc19 kV19 dc19 pm19 cd19 ct19 : Value}
    (a19 : PySem.W.nsIn K mainGlobals "number_of" = some (some (.ref f19))) (l19 : K.lookup f19 = some ⟨oc19, od19, .func (PySem.W.fnOf "number_of" "number_of" (defArgs s_number_of) (defBody s_number_of) (defScope s_number_of) .none kV19 dc19 pm19 an19 cd19 ct19), sl19⟩) (c19 : PySem.W.codeIn K cd19 "number_of" = true) (k19 : PySem.W.keepIn K (.ref f19) = true)
    {f20 : Addr} {od20 an20 : Option Addr} {sl20 : Array (Option Value)} {oc20 kV20 dc20 pm20 cd20 ct20 : Value}
    (a20 : PySem.W.nsIn K mainGlobals "signed" = some (some (.ref f20))) (l20 : K.lookup f20 = some ⟨oc20, od20, .func (PySem.W.fnOf "signed" "signed" (defArgs s_signed) (defBody s_signed) (defScope s_signed) .none kV20 dc20 pm20 an20 cd20 ct20), sl20⟩) (c20 : PySem.W.codeIn K cd20 "signed" = true) (k20 : PySem.W.keepIn K (.ref f20) = true)
    {f21 : Addr} {od21 an21 : Option Addr} {sl21 : Array (Option Value)} {oc21 kV21 dc21 pm21 cd21 ct21 : Value}
    (a21 : PySem.W.nsIn K mainGlobals "part_of" = some (some (.ref f21))) (l21 : K.lookup f21 = some ⟨oc21, od21, .func (PySem.W.fnOf "part_of" "part_of" (defArgs s_part_of) (defBody s_part_of) (defScope s_part_of) .none kV21 dc21 pm21 an21 cd21 ct21), sl21⟩) (c21 : PySem.W.codeIn K cd21 "part_of" = true) (k21 : PySem.W.keepIn K (.ref f21) = true)
    {f22 : Addr} {od22 an22 : Option Addr} {sl22 : Array (Option Value)} {oc22 kV22 dc22 pm22 cd22 ct22 : Value}
    (a22 : PySem.W.nsIn K mainGlobals "row_of" = some (some (.ref f22))) (l22 : K.lookup f22 = some ⟨oc22, od22, .func (PySem.W.fnOf "row_of" "row_of" (defArgs s_row_of) (defBody s_row_of) (defScope s_row_of) .none kV22 dc22 pm22 an22 cd22 ct22), sl22⟩) (c22 : PySem.W.codeIn K cd22 "row_of" = true) (k22 : PySem.W.keepIn K (.ref f22) = true)
    {f23 : Addr} {od23 an23 : Option Addr} {sl23 : Array (Option Value)} {oc23 kV23 dc23 pm23 cd23 ct23 : Value}
    (l23 : K.lookup f23 = some ⟨oc23, od23, .func (PySem.W.fnOf "take" "Reader.take" (defArgs s_Reader__take) (defBody s_Reader__take) (defScope s_Reader__take) .none kV23 dc23 pm23 an23 cd23 ct23), sl23⟩) (c23 : PySem.W.codeIn K cd23 "Reader.take" = true) (k23 : PySem.W.keepIn K (.ref f23) = true)
    {f24 : Addr} {od24 an24 : Option Addr} {sl24 : Array (Option Value)} {oc24 kV24 dc24 pm24 cd24 ct24 : Value}
    (a24 : PySem.W.nsIn K mainGlobals "read_pieces" = some (some (.ref f24))) (l24 : K.lookup f24 = some ⟨oc24, od24, .func (PySem.W.fnOf "read_pieces" "read_pieces" (defArgs s_read_pieces) (defBody s_read_pieces) (defScope s_read_pieces) .none kV24 dc24 pm24 an24 cd24 ct24), sl24⟩) (c24 : PySem.W.codeIn K cd24 "read_pieces" = true) (k24 : PySem.W.keepIn K (.ref f24) = true)
    {f25 : Addr} {od25 an25 : Option Addr} {sl25 : Array (Option Value)} {oc25 kV25 dc25 pm25 cd25 ct25 : Value}
    (a25 : PySem.W.nsIn K mainGlobals "read_book" = some (some (.ref f25))) (l25 : K.lookup f25 = some ⟨oc25, od25, .func (PySem.W.fnOf "read_book" "read_book" (defArgs s_read_book) (defBody s_read_book) (defScope s_read_book) .none kV25 dc25 pm25 an25 cd25 ct25), sl25⟩) (c25 : PySem.W.codeIn K cd25 "read_book" = true) (k25 : PySem.W.keepIn K (.ref f25) = true)
    {f26 : Addr} {od26 an26 : Option Addr} {sl26 : Array (Option Value)} {oc26 kV26 dc26 pm26 cd26 ct26 : Value}
    (a26 : PySem.W.nsIn K mainGlobals "_law_told" = some (some (.ref f26))) (l26 : K.lookup f26 = some ⟨oc26, od26, .func (PySem.W.fnOf "_law_told" "_law_told" (defArgs s_l_told) (defBody s_l_told) (defScope s_l_told) .none kV26 dc26 pm26 an26 cd26 ct26), sl26⟩) (c26 : PySem.W.codeIn K cd26 "_law_told" = true) (k26 : PySem.W.keepIn K (.ref f26) = true)
    {f27 : Addr} {od27 an27 : Option Addr} {sl27 : Array (Option Value)} {oc27 kV27 dc27 pm27 cd27 ct27 : Value}
    (a27 : PySem.W.nsIn K mainGlobals "_law_word" = some (some (.ref f27))) (l27 : K.lookup f27 = some ⟨oc27, od27, .func (PySem.W.fnOf "_law_word" "_law_word" (defArgs s_l_word) (defBody s_l_word) (defScope s_l_word) .none kV27 dc27 pm27 an27 cd27 ct27), sl27⟩) (c27 : PySem.W.codeIn K cd27 "_law_word" = true) (k27 : PySem.W.keepIn K (.ref f27) = true)
    {f28 : Addr} {od28 an28 : Option Addr} {sl28 : Array (Option Value)} {oc28 kV28 dc28 pm28 cd28 ct28 : Value}
    (a28 : PySem.W.nsIn K mainGlobals "_law_leaves" = some (some (.ref f28))) (l28 : K.lookup f28 = some ⟨oc28, od28, .func (PySem.W.fnOf "_law_leaves" "_law_leaves" (defArgs s_l_leaves) (defBody s_l_leaves) (defScope s_l_leaves) .none kV28 dc28 pm28 an28 cd28 ct28), sl28⟩) (c28 : PySem.W.codeIn K cd28 "_law_leaves" = true) (k28 : PySem.W.keepIn K (.ref f28) = true)
    {f29 : Addr} {od29 an29 : Option Addr} {sl29 : Array (Option Value)} {oc29 kV29 dc29 pm29 cd29 ct29 : Value}
    (a29 : PySem.W.nsIn K mainGlobals "_law_pieces" = some (some (.ref f29))) (l29 : K.lookup f29 = some ⟨oc29, od29, .func (PySem.W.fnOf "_law_pieces" "_law_pieces" (defArgs s_l_pieces) (defBody s_l_pieces) (defScope s_l_pieces) .none kV29 dc29 pm29 an29 cd29 ct29), sl29⟩) (c29 : PySem.W.codeIn K cd29 "_law_pieces" = true) (k29 : PySem.W.keepIn K (.ref f29) = true)
    {f30 : Addr} {od30 an30 : Option Addr} {sl30 : Array (Option Value)} {oc30 kV30 dc30 pm30 cd30 ct30 : Value}
    (a30 : PySem.W.nsIn K mainGlobals "_law_rows" = some (some (.ref f30))) (l30 : K.lookup f30 = some ⟨oc30, od30, .func (PySem.W.fnOf "_law_rows" "_law_rows" (defArgs s_l_rows) (defBody s_l_rows) (defScope s_l_rows) .none kV30 dc30 pm30 an30 cd30 ct30), sl30⟩) (c30 : PySem.W.codeIn K cd30 "_law_rows" = true) (k30 : PySem.W.keepIn K (.ref f30) = true)
    {f31 : Addr} {od31 an31 : Option Addr} {sl31 : Array (Option Value)} {oc31 kV31 dc31 pm31 cd31 ct31 : Value}
    (a31 : PySem.W.nsIn K mainGlobals "law" = some (some (.ref f31))) (l31 : K.lookup f31 = some ⟨oc31, od31, .func (PySem.W.fnOf "law" "law" (defArgs s_law) (defBody s_law) (defScope s_law) .none kV31 dc31 pm31 an31 cd31 ct31), sl31⟩) (c31 : PySem.W.codeIn K cd31 "law" = true) (k31 : PySem.W.keepIn K (.ref f31) = true)
    (z_abs : PySem.W.nsIn K mainGlobals "abs" = some none)
    (z_all : PySem.W.nsIn K mainGlobals "all" = some none)
    (z_bool : PySem.W.nsIn K mainGlobals "bool" = some none)
    (z_enumerate : PySem.W.nsIn K mainGlobals "enumerate" = some none)
    (z_int : PySem.W.nsIn K mainGlobals "int" = some none)
    (z_isinstance : PySem.W.nsIn K mainGlobals "isinstance" = some none)
    (z_len : PySem.W.nsIn K mainGlobals "len" = some none)
    (z_list : PySem.W.nsIn K mainGlobals "list" = some none)
    (z_max : PySem.W.nsIn K mainGlobals "max" = some none)
    (z_min : PySem.W.nsIn K mainGlobals "min" = some none)
    (z_range : PySem.W.nsIn K mainGlobals "range" = some none)
    (z_set : PySem.W.nsIn K mainGlobals "set" = some none)
    (z_sorted : PySem.W.nsIn K mainGlobals "sorted" = some none)
    (z_str : PySem.W.nsIn K mainGlobals "str" = some none)
    (z_tuple : PySem.W.nsIn K mainGlobals "tuple" = some none)
    (z_zip : PySem.W.nsIn K mainGlobals "zip" = some none)
    {t_BEYOND : Tok} (z_BEYOND : PySem.W.nsIn K mainGlobals "BEYOND" = some (some (Value.int 1000000000000000000000000000000000000000000000000000000000000 t_BEYOND)))
    {t_FIGURES : Tok} (z_FIGURES : PySem.W.nsIn K mainGlobals "FIGURES" = some (some (Value.str (Str.ofString "0123456789") t_FIGURES)))
    {t_GREATEST : Tok} (z_GREATEST : PySem.W.nsIn K mainGlobals "GREATEST" = some (some (Value.int 1000000000000000000 t_GREATEST)))
    {t_LETTERS : Tok} (z_LETTERS : PySem.W.nsIn K mainGlobals "LETTERS" = some (some (Value.str (Str.ofString "abcdefghijklmnopqrstuvwxyz") t_LETTERS)))
    {t_LONGEST : Tok} (z_LONGEST : PySem.W.nsIn K mainGlobals "LONGEST" = some (some (Value.int 8 t_LONGEST)))
    {t_MOST : Tok} (z_MOST : PySem.W.nsIn K mainGlobals "MOST" = some (some (Value.int 8 t_MOST)))
    {t_MOST_ARGS : Tok} (z_MOST_ARGS : PySem.W.nsIn K mainGlobals "MOST_ARGS" = some (some (Value.int 4 t_MOST_ARGS)))
    {t_MOST_FIGURES : Tok} (z_MOST_FIGURES : PySem.W.nsIn K mainGlobals "MOST_FIGURES" = some (some (Value.int 60 t_MOST_FIGURES)))
    {t_MOST_LEAVES : Tok} (z_MOST_LEAVES : PySem.W.nsIn K mainGlobals "MOST_LEAVES" = some (some (Value.int 8 t_MOST_LEAVES)))
    {t_MOST_PIECES : Tok} (z_MOST_PIECES : PySem.W.nsIn K mainGlobals "MOST_PIECES" = some (some (Value.int 12 t_MOST_PIECES)))
    {t_MOST_ROWS : Tok} (z_MOST_ROWS : PySem.W.nsIn K mainGlobals "MOST_ROWS" = some (some (Value.int 60 t_MOST_ROWS)))
    {d_PARTS : Addr} {e_PARTS : Array DictEntry} {n_PARTS : Nat} (z_PARTS : PySem.W.nsIn K mainGlobals "PARTS" = some (some (.ref d_PARTS))) (q_PARTS : K.lookup d_PARTS = some ⟨.type "dict", none, .dict e_PARTS n_PARTS, #[]⟩) (r_PARTS : PySem.W.KeysLit w.params e_PARTS.toList) (o_PARTS : (d_PARTS == sysModules) = false) (u_PARTS : kEnts K tab_PARTS e_PARTS.toList = true)
    (oa_Reader : PySem.W.nsIn K mainGlobals "Reader" = some (some (.ref C_Reader)))
    (o0_Reader : PySem.W.plainGet K C_Reader Str.empty = true)
    (o1_Reader : PySem.W.hasDictIn K C_Reader = true)
    (o2_Reader : PySem.W.plainOver K C_Reader = true)
    (o3_Reader : PySem.W.findIn K (.ref C_Reader) "__setattr__" = some (some (.builtin "object.__setattr__")))
    (on_Reader_begun : PySem.W.findIn K (.ref C_Reader) "begun" = some none)
    (on_Reader_found : PySem.W.findIn K (.ref C_Reader) "found" = some none)
    (on_Reader_known : PySem.W.findIn K (.ref C_Reader) "known" = some none)
    (on_Reader_lines : PySem.W.findIn K (.ref C_Reader) "lines" = some none)
    (on_Reader_most : PySem.W.findIn K (.ref C_Reader) "most" = some none)
    (om_Reader : PySem.W.makesIn K C_Reader = true)
    (oi_Reader : PySem.W.findIn K (.ref C_Reader) "__init__" = some (some (.ref f2)))
    (okc_Reader : PySem.W.keepIn K (.ref C_Reader) = true)
    (of_Reader_begin : PySem.W.findIn K (.ref C_Reader) "begin" = some (some (.ref f17)))
    (of_Reader_end : PySem.W.findIn K (.ref C_Reader) "end" = some (some (.ref f12)))
    (of_Reader_learn : PySem.W.findIn K (.ref C_Reader) "learn" = some (some (.ref f13)))
    (of_Reader_take : PySem.W.findIn K (.ref C_Reader) "take" = some (some (.ref f23)))
    (ofn_Reader____init__ : PySem.W.isFn K (.ref f2) = true)
    (ofn_Reader__end : PySem.W.isFn K (.ref f12) = true)
    (ofn_Reader__learn : PySem.W.isFn K (.ref f13) = true)
    (ofn_Reader__begin : PySem.W.isFn K (.ref f17) = true)
    (ofn_Reader__take : PySem.W.isFn K (.ref f23) = true)
    (ka_CallersError : PySem.W.nsIn K mainGlobals "CallersError" = some (some (.ref C_CallersError)))
    (kh_CallersError : PySem.W.hasDictIn K C_CallersError = true)
    (kt_CallersError : PySem.W.typeIn K (.ref C_CallersError) = some (.type "type"))
    (kx_CallersError : PySem.W.subIn K (.ref C_CallersError) (.type "BaseException") = some true)
    (ka_NoText : PySem.W.nsIn K mainGlobals "NoText" = some (some (.ref C_NoText)))
    (kh_NoText : PySem.W.hasDictIn K C_NoText = true)
    (kt_NoText : PySem.W.typeIn K (.ref C_NoText) = some (.type "type"))
    (kx_NoText : PySem.W.subIn K (.ref C_NoText) (.type "BaseException") = some true)
    (x0_NoText : PySem.W.findIn K (.ref C_NoText) "__getattribute__" = some (some (.builtin "BaseException.__getattribute__")))
    (x1_NoText : PySem.W.findIn K (.ref C_NoText) "__getattr__" = some none)
    (x2_NoText : PySem.W.subIn K (.ref C_NoText) (.type "BaseException") = some true)
    (x3_NoText : PySem.W.hasDictIn K C_NoText = true)
    (x4_NoText : PySem.W.findIn K (.ref C_NoText) "__class__" = some (some (.builtin "object.__class__")))
    (x5_NoText : PySem.W.specialIn K (.builtin "object.__class__") "__get__" = some (some (.builtin "getset_descriptor.__get__")))
    (x6_NoText : PySem.W.takesIn K (.builtin "object.__class__") = some true)
    (x7_NoText : PySem.W.mroIn K C_NoText (.type "object") = some true)
    (g_NoText_row : PySem.W.findIn K (.ref C_NoText) "row" = some none)
    (s_NoText_NoText : PySem.W.subIn K (.ref C_NoText) (.ref C_NoText) = some true)
    {nm_NoText qn_NoText : Str} {N_NoText : Addr} {bs_NoText bm_NoText : List Value} {sn_NoText : List Str} {sub_NoText : List Value} {ab_NoText : Bool} {col_NoText : Option Bool} {dd_NoText : Option Addr} {k0_NoText k1_NoText k2_NoText k3_NoText k5_NoText : Option Value} (lc_NoText : K.lookup C_NoText = some (PySem.excClassObj nm_NoText qn_NoText C_NoText N_NoText bs_NoText bm_NoText true sn_NoText sub_NoText ab_NoText col_NoText dd_NoText k0_NoText k1_NoText k2_NoText k3_NoText k5_NoText "ValueError.__new__"))
    (rc_NoText : PySem.HandSPX.refsVE bm_NoText = true)
    (sa_NoText : PySem.W.findIn K (.ref C_NoText) "__setattr__" = some (some (.builtin "object.__setattr__")))
    (kc_NoText : PySem.W.keepIn K (.ref C_NoText) = true)
    {fI_NoText : Addr} (ai_NoText : PySem.W.findIn K (.ref C_NoText) "__init__" = some (some (.ref fI_NoText)))
    (ti_NoText : PySem.W.typeIn K (.ref fI_NoText) = some (.type "function"))
    {odi_NoText ani_NoText : Option Addr} {sli_NoText : Array (Option Value)} {oci_NoText kVi_NoText dci_NoText pmi_NoText cdi_NoText cti_NoText : Value} (li_NoText : K.lookup fI_NoText = some ⟨oci_NoText, odi_NoText, .func (PySem.W.fnOf "__init__" "NoText.__init__" (defArgs si_NoText) (defBody si_NoText) (defScope si_NoText) .none kVi_NoText dci_NoText pmi_NoText ani_NoText cdi_NoText cti_NoText), sli_NoText⟩)
    (ci_NoText : PySem.W.codeIn K cdi_NoText "NoText.__init__" = true)
    (ki_NoText : PySem.W.keepIn K (.ref fI_NoText) = true)
    (b1_CallersError : PySem.W.specialIn K (.ref C_CallersError) "__getattribute__" = some (some (.builtin "type.__getattribute__")))
    (b3_CallersError : PySem.W.readsIn K C_CallersError (.type "type") = true)
    (bv_CallersError : PySem.W.findCls K (.ref C_CallersError) (.type "type") "__init__" = some (.val (.builtin "ValueError.__init__")))
    : ∃ fd : FuncData, (∀ (s : Shared) (v : Value), BindsTo s fd ⟨[v], []⟩ [("_law_script", v)]) ∧ ∀ base : Heap, K.In base → base.Ns mainGlobals mg → FnOk l.prog w K mg base (L2.CX l.prog w) 13 fa fd [Str.ofString "_law_script"] (spD K (XSd K) 1 f_law) := by
  have T : Tx K w mg C_CallersError C_NoText C_Reader := ⟨clsAt_of oa_Reader, ⟨o0_Reader, o1_Reader, o2_Reader, o3_Reader⟩, on_Reader_begun, on_Reader_found, on_Reader_known, on_Reader_lines, on_Reader_most, clsF_mk X G ka_CallersError kh_CallersError kt_CallersError kx_CallersError, clsF_mk X G ka_NoText kh_NoText kt_NoText kx_NoText, ⟨x0_NoText, x1_NoText, x2_NoText, x3_NoText, x4_NoText, x5_NoText, x6_NoText, x7_NoText⟩, g_NoText_row, s_NoText_NoText, PySem.W.mg_none_of X G z_abs, PySem.W.mg_none_of X G z_all, PySem.W.mg_none_of X G z_bool, PySem.W.mg_none_of X G z_enumerate, PySem.W.mg_none_of X G z_int, PySem.W.mg_none_of X G z_isinstance, PySem.W.mg_none_of X G z_len, PySem.W.mg_none_of X G z_list, PySem.W.mg_none_of X G z_max, PySem.W.mg_none_of X G z_min, PySem.W.mg_none_of X G z_range, PySem.W.mg_none_of X G z_set, PySem.W.mg_none_of X G z_sorted, PySem.W.mg_none_of X G z_str, PySem.W.mg_none_of X G z_tuple, PySem.W.mg_none_of X G z_zip, ⟨_, PySem.W.mg_of X G z_BEYOND⟩, ⟨_, PySem.W.mg_of X G z_FIGURES⟩, ⟨_, PySem.W.mg_of X G z_GREATEST⟩, ⟨_, PySem.W.mg_of X G z_LETTERS⟩, ⟨_, PySem.W.mg_of X G z_LONGEST⟩, ⟨_, PySem.W.mg_of X G z_MOST⟩, ⟨_, PySem.W.mg_of X G z_MOST_ARGS⟩, ⟨_, PySem.W.mg_of X G z_MOST_FIGURES⟩, ⟨_, PySem.W.mg_of X G z_MOST_LEAVES⟩, ⟨_, PySem.W.mg_of X G z_MOST_PIECES⟩, ⟨_, PySem.W.mg_of X G z_MOST_ROWS⟩, ⟨_, _, _, PySem.W.mg_of X G z_PARTS, ⟨q_PARTS, r_PARTS, o_PARTS⟩, u_PARTS⟩⟩
  have e := hfa.symm.trans (PySem.W.mg_of X G a31)
  cases e
  have FL := fun_mk (st := s_law) l31 c31 k31
  refine ⟨PySem.W.fnOf "law" "law" (defArgs s_law) (defBody s_law) (defScope s_law) .none kV31 dc31 pm31 an31 cd31 ct31, fun s v => .of_eq rfl, fun base _ _ => ?_⟩
  have O_NoText : OexC K C_NoText := oexC_mk lc_NoText rc_NoText sa_NoText kx_NoText kt_NoText kc_NoText
  have X_NoText : ExFn l.prog w K mg base "NoText" 1 [Str.ofString "row"] := exfn_mk (s := si_NoText) T.k_NoText O_NoText ai_NoText ti_NoText li_NoText ci_NoText ki_NoText (fun us hl => match us, hl with | [_, _], _ => rfl) (fun f fd F => oki_NoText T O_NoText ⟨b1_CallersError, b3_CallersError, bv_CallersError⟩ F)
  have F_l_hand : Fn l.prog w K mg base (XSd K) "_law_hand" 1 2 f_l_hand := fn_mk X G a0 l0 c0 k0 sc_l_hand (fun us hl => match us, hl with | [_, _], _ => rfl) rfl rfl (fun f fd F => ok_l_hand T  F)
  have F_l_draw : Fn l.prog w K mg base (XSd K) "_law_draw" 1 2 f_l_draw := fn_mk X G a1 l1 c1 k1 sc_l_draw (fun us hl => match us, hl with | [_, _], _ => rfl) rfl rfl (fun f fd F => ok_l_draw T  F)
  have K_Reader : MkF l.prog w K mg base (XSd K) "Reader" 1 2 f_Reader____init__ := mkf_mk X G oa_Reader om_Reader oi_Reader ofn_Reader____init__ okc_Reader l2 c2 k2 sc_Reader____init__ (fun us hl => match us, hl with | [_, _], _ => rfl) rfl rfl (fun f fd F => ok_Reader____init__ T  F)
  have F_goes_over : Fn l.prog w K mg base (XSd K) "goes_over" 1 1 f_goes_over := fn_mk X G a3 l3 c3 k3 sc_goes_over (fun us hl => match us, hl with | [_], _ => rfl) rfl rfl (fun f fd F => ok_goes_over T  F)
  have F_is_word : Fn l.prog w K mg base (XSd K) "is_word" 1 1 f_is_word := fn_mk X G a4 l4 c4 k4 sc_is_word (fun us hl => match us, hl with | [_], _ => rfl) rfl rfl (fun f fd F => ok_is_word T  F)
  have F_are_args : Fn l.prog w K mg base (XSd K) "are_args" 2 1 f_are_args := fn_mk X G a5 l5 c5 k5 sc_are_args (fun us hl => match us, hl with | [_], _ => rfl) rfl rfl (fun f fd F => ok_are_args T F_is_word F)
  have F_are_leaves : Fn l.prog w K mg base (XSd K) "are_leaves" 2 1 f_are_leaves := fn_mk X G a6 l6 c6 k6 sc_are_leaves (fun us hl => match us, hl with | [_], _ => rfl) rfl rfl (fun f fd F => ok_are_leaves T F_is_word F)
  have F_is_whole : Fn l.prog w K mg base (XSd K) "is_whole" 1 1 f_is_whole := fn_mk X G a7 l7 c7 k7 sc_is_whole (fun us hl => match us, hl with | [_], _ => rfl) rfl rfl (fun f fd F => ok_is_whole T  F)
  have F_is_number : Fn l.prog w K mg base (XSd K) "is_number" 2 1 f_is_number := fn_mk X G a8 l8 c8 k8 sc_is_number (fun us hl => match us, hl with | [_], _ => rfl) rfl rfl (fun f fd F => ok_is_number T F_is_whole F)
  have F_is_part : Fn l.prog w K mg base (XSd K) "is_part" 3 2 f_is_part := fn_mk X G a9 l9 c9 k9 sc_is_part (fun us hl => match us, hl with | [_, _], _ => rfl) rfl rfl (fun f fd F => ok_is_part T F_are_args F_are_leaves F_is_number F_is_whole F_is_word F)
  have F_is_row : Fn l.prog w K mg base (XSd K) "is_row" 4 1 f_is_row := fn_mk X G a10 l10 c10 k10 sc_is_row (fun us hl => match us, hl with | [_], _ => rfl) rfl rfl (fun f fd F => ok_is_row T F_is_part F)
  have F_bad_row : Fn l.prog w K mg base (XSd K) "bad_row" 5 1 f_bad_row := fn_mk X G a11 l11 c11 k11 sc_bad_row (fun us hl => match us, hl with | [_], _ => rfl) rfl rfl (fun f fd F => ok_bad_row T F_goes_over F_is_row F)
  have M_Reader_end : Mt l.prog w K mg base (XSd K) "Reader" "end" 6 2 f_Reader__end := mt_mk oa_Reader ⟨o0_Reader, o1_Reader, o2_Reader, o3_Reader⟩ of_Reader_end ofn_Reader__end l12 c12 k12 sc_Reader__end (fun us hl => match us, hl with | [_, _], _ => rfl) rfl rfl (fun f fd F => ok_Reader__end T F_bad_row X_NoText F)
  have M_Reader_learn : Mt l.prog w K mg base (XSd K) "Reader" "learn" 3 3 f_Reader__learn := mt_mk oa_Reader ⟨o0_Reader, o1_Reader, o2_Reader, o3_Reader⟩ of_Reader_learn ofn_Reader__learn l13 c13 k13 sc_Reader__learn (fun us hl => match us, hl with | [_, _, _], _ => rfl) rfl rfl (fun f fd F => ok_Reader__learn T X_NoText F)
  have F_is_head : Fn l.prog w K mg base (XSd K) "is_head" 3 1 f_is_head := fn_mk X G a14 l14 c14 k14 sc_is_head (fun us hl => match us, hl with | [_], _ => rfl) rfl rfl (fun f fd F => ok_is_head T F_are_args F_are_leaves F_is_word F)
  have F_parted : Fn l.prog w K mg base (XSd K) "parted" 1 1 f_parted := fn_mk X G a15 l15 c15 k15 sc_parted (fun us hl => match us, hl with | [_], _ => rfl) rfl rfl (fun f fd F => ok_parted T  F)
  have F_head_of : Fn l.prog w K mg base (XSd K) "head_of" 4 1 f_head_of := fn_mk X G a16 l16 c16 k16 sc_head_of (fun us hl => match us, hl with | [_], _ => rfl) rfl rfl (fun f fd F => ok_head_of T F_is_head F_parted F)
  have M_Reader_begin : Mt l.prog w K mg base (XSd K) "Reader" "begin" 7 3 f_Reader__begin := mt_mk oa_Reader ⟨o0_Reader, o1_Reader, o2_Reader, o3_Reader⟩ of_Reader_begin ofn_Reader__begin l17 c17 k17 sc_Reader__begin (fun us hl => match us, hl with | [_, _, _], _ => rfl) rfl rfl (fun f fd F => ok_Reader__begin T F_head_of M_Reader_end M_Reader_learn X_NoText F)
  have F_leaves_in : Fn l.prog w K mg base (XSd K) "leaves_in" 1 1 f_leaves_in := fn_mk X G a18 l18 c18 k18 sc_leaves_in (fun us hl => match us, hl with | [_], _ => rfl) rfl rfl (fun f fd F => ok_leaves_in T  F)
  have F_number_of : Fn l.prog w K mg base (XSd K) "number_of" 1 1 f_number_of := fn_mk X G a19 l19 c19 k19 sc_number_of (fun us hl => match us, hl with | [_], _ => rfl) rfl rfl (fun f fd F => ok_number_of T  F)
  have F_signed : Fn l.prog w K mg base (XSd K) "signed" 2 1 f_signed := fn_mk X G a20 l20 c20 k20 sc_signed (fun us hl => match us, hl with | [_], _ => rfl) rfl rfl (fun f fd F => ok_signed T F_number_of F)
  have F_part_of : Fn l.prog w K mg base (XSd K) "part_of" 3 2 f_part_of := fn_mk X G a21 l21 c21 k21 sc_part_of (fun us hl => match us, hl with | [_, _], _ => rfl) rfl rfl (fun f fd F => ok_part_of T F_number_of F_signed F)
  have F_row_of : Fn l.prog w K mg base (XSd K) "row_of" 5 1 f_row_of := fn_mk X G a22 l22 c22 k22 sc_row_of (fun us hl => match us, hl with | [_], _ => rfl) rfl rfl (fun f fd F => ok_row_of T F_is_row F_part_of F_parted F)
  have M_Reader_take : Mt l.prog w K mg base (XSd K) "Reader" "take" 8 3 f_Reader__take := mt_mk oa_Reader ⟨o0_Reader, o1_Reader, o2_Reader, o3_Reader⟩ of_Reader_take ofn_Reader__take l23 c23 k23 sc_Reader__take (fun us hl => match us, hl with | [_, _, _], _ => rfl) rfl rfl (fun f fd F => ok_Reader__take T F_leaves_in F_row_of M_Reader_begin M_Reader_learn X_NoText F)
  have F_read_pieces : Fn l.prog w K mg base (XSd K) "read_pieces" 9 2 f_read_pieces := fn_mk X G a24 l24 c24 k24 sc_read_pieces (fun us hl => match us, hl with | [_, _], _ => rfl) rfl rfl (fun f fd F => ok_read_pieces T M_Reader_end M_Reader_take K_Reader X_NoText F)
  have F_read_book : Fn l.prog w K mg base (XSd K) "read_book" 10 1 f_read_book := fn_mk X G a25 l25 c25 k25 sc_read_book (fun us hl => match us, hl with | [_], _ => rfl) rfl rfl (fun f fd F => ok_read_book T F_read_pieces F)
  have F_l_told : Fn l.prog w K mg base (XSd K) "_law_told" 11 1 f_l_told := fn_mk X G a26 l26 c26 k26 sc_l_told (fun us hl => match us, hl with | [_], _ => rfl) rfl rfl (fun f fd F => ok_l_told T F_read_book F)
  have F_l_word : Fn l.prog w K mg base (XSd K) "_law_word" 1 1 f_l_word := fn_mk X G a27 l27 c27 k27 sc_l_word (fun us hl => match us, hl with | [_], _ => rfl) rfl rfl (fun f fd F => ok_l_word T  F)
  have F_l_leaves : Fn l.prog w K mg base (XSd K) "_law_leaves" 12 1 f_l_leaves := fn_mk X G a28 l28 c28 k28 sc_l_leaves (fun us hl => match us, hl with | [_], _ => rfl) rfl rfl (fun f fd F => ok_l_leaves T F_l_draw F_l_told F_l_word F)
  have F_l_pieces : Fn l.prog w K mg base (XSd K) "_law_pieces" 12 1 f_l_pieces := fn_mk X G a29 l29 c29 k29 sc_l_pieces (fun us hl => match us, hl with | [_], _ => rfl) rfl rfl (fun f fd F => ok_l_pieces T F_l_draw F_l_told F_l_word F)
  have F_l_rows : Fn l.prog w K mg base (XSd K) "_law_rows" 12 1 f_l_rows := fn_mk X G a30 l30 c30 k30 sc_l_rows (fun us hl => match us, hl with | [_], _ => rfl) rfl rfl (fun f fd F => ok_l_rows T F_l_draw F_l_told F)
  exact ok_law T F_l_hand F_l_leaves F_l_pieces F_l_rows F_l_told FL
end T_allcallers_k13_ends_and_bounds
namespace C
open PySem L2 D
def b_l_hand : DS := (sSeq (sSet 2 (bin ix2 (bin add2 (slD (var 0) (soO (var 1)) (soO (bin add2 (var 1) (cst (.int 1))))) (appN szL (acons (cst (.int 0)) anil))) (cst (.int 0)))) (sSeq (sSet 3 (bin mod2 (bin mul2 (bin add2 (bin add2 (bin mod2 (var 2) (cst (.int 2147483647))) (bin mul2 (cst (.int 7919)) (var 1))) (cst (.int 1))) (cst (.int 48271))) (cst (.int 2147483629)))) (sSeq (sRet (refL (szDL (acons (bin mul2 (appN intN (acons (bin ge2 (var 2) (bin pow2 (cst (.int 10)) (cst (.int 18)))) anil)) (var 2)) (acons (var 3) anil))))) sNil)))
def f_l_hand : List U → Store → Rs U := runB 4 2 b_l_hand
def b_l_draw : DS := (sSeq (sIf (tst (bin gt2 (ixR (var 0) (cst (.int 0))) (cst (.int 0)))) (sSeq (sSet 2 (bin mod2 (ixR (var 0) (cst (.int 0))) (var 1))) (sSeq (sIxR (var 0) (cst (.int 0)) (bin fdiv2 (ixR (var 0) (cst (.int 0))) (var 1))) (sSeq (sRet (var 2)) sNil))) sNil) (sSeq (sIxR (var 0) (cst (.int 1)) (bin mod2 (bin add2 (bin mul2 (ixR (var 0) (cst (.int 1))) (cst (.int 48271))) (cst (.int 11))) (cst (.int 2147483647)))) (sSeq (sRet (bin mod2 (bin fdiv2 (bin mod2 (bin mul2 (ixR (var 0) (cst (.int 1))) (ixR (var 0) (cst (.int 1)))) (cst (.int 2147483629))) (cst (.int 64))) (var 1))) sNil)))
def f_l_draw : List U → Store → Rs U := runB 3 2 b_l_draw
/-- a hand: what is left of a cell, and a seed -/
def HandOb (ob : Ob) : Prop := ∃ a b : Int, ob = .lst [.int a, .int b] ∧ 0 ≤ a ∧ 0 ≤ b ∧ b < 2147483647
theorem draw_ok (n : Nat) (m : Int) (hm : 0 < m) (hm2 : m < 1073741824) (st : Store) (ob : Ob) (h : st[n]? = some ob) (ho : HandOb ob) :
    ∃ r ob', f_l_draw [.ref n, .int m] st = .ok (.int r) (st.set n ob') ∧ 0 ≤ r ∧ r < m ∧ HandOb ob' := by
  obtain ⟨a, b, rfl, ha, hb, hb2⟩ := ho
  have hn : n < st.length := (List.getElem?_eq_some_iff.mp h).1
  have gs : ∀ ob : Ob, (st.set n ob)[n]? = some ob := fun ob => List.getElem?_set_self hn
  clear hn
  have i0 : ixN 2 0 = some 0 := rfl
  have i1 : ixN 2 1 = some 1 := rfl
  have a0 : ∀ x y : U, atI [x, y] 0 = some x := fun _ _ => rfl
  have a1 : ∀ x y : U, atI [x, y] 1 = some y := fun _ _ => rfl
  have hmo : ∀ x : Int, mod2 (.int x) (.int m) = some (.int (x % m)) := fun x => by
    show (if _ then _ else _) = _
    rw [if_pos hm]
  have hfd : fdiv2 (.int a) (.int m) = some (.int (a / m)) := by
    show (if _ then _ else _) = _
    rw [if_pos ⟨hm, hm2⟩]
  unfold f_l_draw b_l_draw
  by_cases q : 0 < a
  · refine ⟨a % m, .lst [.int (a / m), .int b], ?_, Int.emod_nonneg _ (by omega), Int.emod_lt_of_pos _ hm, a / m, b, rfl, Int.ediv_nonneg ha (by omega), hb, hb2⟩
    simp [h, a0, q, hmo, hfd, i0]
  · obtain ⟨c, hc⟩ : ∃ c, c = (b * 48271 + 11) % 2147483647 := ⟨_, rfl⟩
    have c0 : 0 ≤ c := by rw [hc]; exact Int.emod_nonneg _ (by decide)
    have c1 : c < 2147483647 := by rw [hc]; exact Int.emod_lt_of_pos _ (by decide)
    have s1 : smallI b = true := by unfold smallI; simp; omega
    have s2 : smallI c = true := by unfold smallI; simp; omega
    refine ⟨c * c % 2147483629 / 64 % m, .lst [.int a, .int c], ?_, Int.emod_nonneg _ (by omega), Int.emod_lt_of_pos _ hm, a, c, rfl, ha, c0, c1⟩
    simp [h, a0, a1, q, hmo, i1, s1, ← hc, s2, gs]
theorem pow18' : pow2 (.int 10) (.int 18) = some (.int 1000000000000000000) := by simp [pow2]
theorem hand_ok (ns : List Int) (k : Nat) (hk : k ≤ 1000000) (st : Store) : ∃ ob, f_l_hand [.scr ns, .int (k : Int)] st = .ok (.ref st.length) (st ++ [ob]) ∧ HandOb ob := by
  obtain ⟨c, hc⟩ : ∃ c : Int, c = ((ns.drop k).take 1 ++ [0]).headD 0 := ⟨_, rfl⟩
  obtain ⟨sd, hsd⟩ : ∃ s : Int, s = (c % 2147483647 + 7919 * (k : Int) + 1) * 48271 % 2147483629 := ⟨_, rfl⟩
  refine ⟨.lst [.int (if 1000000000000000000 ≤ c then c else 0), .int sd], ?_, _, _, rfl, ?_, by rw [hsd]; exact Int.emod_nonneg _ (by decide), by rw [hsd]; have := Int.emod_lt_of_pos ((c % 2147483647 + 7919 * (k : Int) + 1) * 48271) (show (0 : Int) < 2147483629 by decide); omega⟩
  · obtain ⟨X, hX⟩ : ∃ X, X = (ns.drop k).take 1 := ⟨_, rfl⟩
    have lX : X.length ≤ 1 := by rw [hX, List.length_take]; omega
    have cm : cutL ns (some (k : Int)) (some ((k : Int) + 1)) = X := by
      have e : ((k : Int) + 1) = ((k + 1 : Nat) : Int) := rfl
      rw [e, cutL_mid', hX]
      congr 1
      omega
    have ad : add2 (.lst (X.map U.int)) (.lst [.int 0]) = some (.lst (X.map U.int ++ [.int 0])) := by
      show (if _ then _ else _) = _
      rw [if_pos (by rw [sizeLine_eq, List.length_map]; simp; omega)]
    have ix : ix2 (.lst (X.map U.int ++ [.int 0])) (.int 0) = some (.int c) := by
      rw [hc, ← hX]
      cases X with
      | nil => rfl
      | cons x t => simp
    have s1 : smallI (c % 2147483647 + 7919 * (k : Int) + 1) = true := by
      have a1 := Int.emod_nonneg c (show (2147483647 : Int) ≠ 0 by decide)
      have a2 := Int.emod_lt_of_pos c (show (0 : Int) < 2147483647 by decide)
      unfold smallI
      simp
      omega
    have s2 : smallI (k : Int) = true := by unfold smallI; simp; omega
    have s0 : smallI 1 = true := by decide
    have s3 : smallI 0 = true := by decide
    unfold f_l_hand b_l_hand
    generalize hA : U.lst (X.map U.int) = A at *
    by_cases q : 1000000000000000000 ≤ c
    · simp [cm, hA, ad, ix, pow18', s1, s2, ← hsd, q, s0, -add_lsts]
    · simp [cm, hA, ad, ix, pow18', s1, s2, ← hsd, q, s3, -add_lsts]
  · split <;> omega
end C
namespace G1
open PySem L2 D C
def lmS : List Str := [Str.ofString "ask", Str.ofString "b", Str.ofString "gate", Str.ofString "open", Str.ofString "pay", Str.ofString "w", Str.ofString "x", Str.ofString "zz"]
end G1
namespace G1
open PySem L2 D C
structure Hd where
  name : Str
  own : List Str
  params : List Str
def Hd.u (h : Hd) : U := .tup [.str h.name, tS h.own, tS h.params]
end G1
namespace G1
open PySem L2 D C
def preOk : Row → Bool
  | .skip a k => isWordS a && decide (0 ≤ k)
  | .over k => decide (0 ≤ k)
  | .ask w k => isWordS w && decide (0 ≤ k)
  | r => r.ok
def Pre (r : Row) : Prop := preOk r = true ∧ ∀ w ∈ r.leaves, w ∈ lmS
def Steps (o : Rs U) (st : Store) : Prop := ∃ rows : List Row, o = .ok (.lst (rows.map Row.u)) st ∧ 1 ≤ rows.length ∧ rows.length ≤ 2 ∧ ∀ r ∈ rows, Pre r
theorem Steps.one {o : Rs U} {st : Store} (r : Row) (h : o = .ok (.lst [r.u]) st) (hp : Pre r) : Steps o st := ⟨[r], h, by simp, by simp, fun x hx => by rw [List.mem_singleton] at hx; subst hx; exact hp⟩
/-- a row as it is put at its place -/
def put (behind : Nat) (r : Row) : Row := match r with
  | .skip a k => if behind = 0 then .on else .skip a (1 + k % (min behind 3 : Nat))
  | .over k => if behind = 0 then .on else .over (1 + k % (min behind 3 : Nat))
  | .ask w k => if behind = 0 then .on else .ask w (1 + k % (min behind 3 : Nat))
  | r => r
end G1
namespace G1
open PySem L2 D C
theorem nodup_len : ∀ (l m : List Str), l.Nodup → (∀ x ∈ l, x ∈ m) → l.length ≤ m.length
  | [], _, _, _ => Nat.zero_le _
  | x :: l, m, nd, h => by
    rw [List.nodup_cons] at nd
    have hx := h x (List.mem_cons_self ..)
    have := nodup_len l (m.erase x) nd.2 fun y hy => (List.mem_erase_of_ne (fun e => by subst e; exact nd.1 hy)).mpr (h y (List.mem_cons_of_mem _ hy))
    rw [List.length_erase_of_mem hx] at this
    have : 0 < m.length := List.length_pos_of_mem hx
    rw [List.length_cons]
    omega
end G1
namespace G2
open PySem L2 D C
/-- the hand at n has been drawn from; all else of the store stands -/
structure Keep (n : Nat) (st st' : Store) : Prop where
  len : st'.length = st.length
  oth : ∀ m, m ≠ n → st'[m]? = st[m]?
  hand : ∃ ob, st'[n]? = some ob ∧ HandOb ob
def Hs (n : Nat) (st : Store) : Prop := ∃ ob, st[n]? = some ob ∧ HandOb ob
theorem Keep.refl {n : Nat} {st : Store} (h : Hs n st) : Keep n st st := ⟨rfl, fun _ _ => rfl, h⟩
theorem Keep.hs {n : Nat} {st st' : Store} (k : Keep n st st') : Hs n st' := k.hand
theorem Keep.trans {n : Nat} {st st1 st2 : Store} (a : Keep n st st1) (b : Keep n st1 st2) : Keep n st st2 := ⟨by rw [b.len, a.len], fun m h => by rw [b.oth m h, a.oth m h], b.hand⟩
def Dr {A : Type} (n : Nat) (st : Store) (P : A → Prop) (r : Rs A) : Prop := ∃ a st', r = .ok a st' ∧ Keep n st st' ∧ P a
section
variable {A B : Type} {n : Nat} {st : Store}
theorem Dr.ok {P : A → Prop} {a : A} (h : Hs n st) (p : P a) : Dr n st P (.ok a st) := ⟨a, st, rfl, .refl h, p⟩
theorem Dr.imp {P Q : A → Prop} {r : Rs A} (d : Dr n st P r) (h : ∀ a, P a → Q a) : Dr n st Q r := let ⟨a, s, e, k, p⟩ := d; ⟨a, s, e, k, h a p⟩
theorem Dr.pre {P : A → Prop} {r : Rs A} {st0 : Store} (k : Keep n st0 st) (d : Dr n st P r) : Dr n st0 P r := let ⟨a, s, e, k2, p⟩ := d; ⟨a, s, e, k.trans k2, p⟩
theorem Dr.bind {P : A → Prop} {Q : B → Prop} {r : Rs A} {k : A → Store → Rs B} (d : Dr n st P r) (h : ∀ a st', Keep n st st' → P a → Dr n st' Q (k a st')) : Dr n st Q (r.bind k) := by
  obtain ⟨a, s, rfl, k1, p⟩ := d
  exact (h a s k1 p).pre k1
theorem Dr.out {P : A → Prop} {Q : U → Prop} {r : Rs A} {env : D.Env} {k : A → Store → Out} {rest : DS} (d : Dr n st P r) (h : ∀ a st', Keep n st st' → P a → Dr n st' Q (fin ((k a st').seq rest))) : Dr n st Q (fin ((r.out env k).seq rest)) := by
  obtain ⟨a, s, rfl, k1, p⟩ := d
  exact (h a s k1 p).pre k1
end
end G2
namespace C
open PySem L2 D
end C
namespace G2
open PySem L2 D C
theorem sort_leaves {r : List Str} (hn : r.Nodup) (hw : ∀ w ∈ r, isWordS w = true) (hl : r.length ≤ 8) : leavesS (sortS r) = true := by
  have pm := sort_perm r
  have nd : (sortS r).Nodup := pm.nodup_iff.mpr hn
  unfold leavesS
  rw [areL_txt _ fun w h => hw w (pm.mem_iff.mp h), ded_id nd, sort_congr pm, pm.length_eq]
  simp [hl]
/-- a loop with the store -/
theorem for_stL {T : Type} {t : Tg} {b : DS} {f : T → U} (I : List T → D.Env → Store → Prop) : ∀ (l : List T) (env : D.Env) (st : Store), I l env st → (∀ x r env st, x ∈ l → I (x :: r) env st → ∃ a env' st', t (f x) = some a ∧ b (setE env a) st = .nx env' st' ∧ I r env' st') → ∃ env' st', forL t b (l.map f) env st = .nx env' st' ∧ I [] env' st'
  | [], env, st, h, _ => ⟨env, st, rfl, h⟩
  | x :: l, env, st, h, step => by
    obtain ⟨a, env1, st1, h1, h2, h3⟩ := step x l env st (List.mem_cons_self ..) h
    obtain ⟨env2, st2, e, q⟩ := for_stL I l env1 st1 h3 fun y r env st hy => step y r env st (List.mem_cons_of_mem _ hy)
    exact ⟨env2, st2, by rw [List.map_cons, for_cons, h1]; simp only [h2]; exact e, q⟩
structure Hd where
  name : Str
  own : List Str
  params : List Str
def Hd.u (h : Hd) : U := .tup [.str h.name, tS h.own, tS h.params]
structure Kit where
  heads : List Hd
  roster : List Str
  pool : List Str
def Kit.u (k : Kit) : U := .tup [.lst (k.heads.map Hd.u), lS k.roster, lS k.pool]
end G2
namespace TX
open PySem L2 D C
def num (i : Int) : Str := Str.ofString (toString i)
def bang : Str := Str.ofString "!"
def sp : Str := Str.ofString " "
def nl : Str := Str.ofString "\n"
/-- the words of a row -/
def wd : Row → List Str
  | .set x n => [Str.ofString "set", x, num n]
  | .same x a => [Str.ofString "same", x, a]
  | .sum x a b => [Str.ofString "sum", x, a, b]
  | .less x a b => [Str.ofString "less", x, a, b]
  | .hold x n as => [Str.ofString "hold", x, n] ++ as
  | .call x f as vs => [Str.ofString "call", x, f] ++ as ++ (bang :: vs)
  | .last f as vs => [Str.ofString "last", f] ++ as ++ (bang :: vs)
  | .give a => [Str.ofString "give", a]
  | .keep c a => [Str.ofString "keep", c, a]
  | .kept x c => [Str.ofString "kept", x, c]
  | .skip a k => [Str.ofString "skip", a, num k]
  | .over k => [Str.ofString "over", num k]
  | .on => [Str.ofString "on"]
  | .count => [Str.ofString "count"]
  | .ask w k => [Str.ofString "ask", w, num k]
  | .deed w a => [Str.ofString "deed", w, a]
  | .done w a => [Str.ofString "done", w, a]
def rowT (r : Row) : Str := Txt.join sp (wd r)
def headW (p : Piece) : List Str := [Str.ofString "piece", p.name] ++ p.params ++ [bang] ++ p.own
/-- a row whose parts are no too great ones -/
structure Fit (r : Row) : Prop where
  ok : r.ok = true
  goes : r.goes ≤ 60
theorem sum_le (m : Nat) : ∀ ws : List Str, (∀ w ∈ ws, w.length ≤ m) → (ws.map (·.length)).sum ≤ ws.length * m
  | [], _ => Nat.zero_le _
  | w :: ws, h => by
    have h1 := h w (List.mem_cons_self ..)
    have h2 := sum_le m ws fun x hx => h x (List.mem_cons_of_mem _ hx)
    rw [List.map_cons, List.sum_cons, List.length_cons, Nat.add_mul]
    omega
theorem join_len (s : Str) (ws : List Str) (m : Nat) (h : ∀ w ∈ ws, w.length ≤ m) : (Txt.join s ws).length ≤ ws.length * m + ws.length * s.length := by
  have e : (Txt.join s ws).length = (ws.map (·.length)).sum + (ws.length - 1) * s.length := size_glued s ws
  have h1 := sum_le m ws h
  have h2 : (ws.length - 1) * s.length ≤ ws.length * s.length := Nat.mul_le_mul_right _ (Nat.sub_le _ _)
  omega
theorem join_ev (s : Str) (ws : List Str) (m : Nat) (h : ∀ w ∈ ws, w.length ≤ m) (hz : ws.length * m + ws.length * s.length ≤ 16777216) : join2 s (lS ws) = some (.str (Txt.join s ws)) := by
  unfold join2
  show (strsU (ws.map U.str)).bind _ = _
  rw [strs_map]
  have := sum_le m ws h
  have hz' : (ws.map (·.length)).sum + ws.length * s.length ≤ 16777216 := by omega
  simp only [Option.bind_some, if_pos hz']
theorem word_len {w : Str} (h : isWordS w = true) : w.length ≤ 8 := by
  unfold isWordS at h
  simp only [Bool.and_eq_true, decide_eq_true_eq] at h
  exact h.1.2
theorem num_len {i : Int} (h : -1000000000000000000 ≤ i ∧ i ≤ 1000000000000000000) : (num i).length ≤ 20 := by
  unfold num
  rw [ofString_length]
  exact int_text_length_le10 (k := 19) (by decide) (by omega)
theorem num_ev {i : Int} (h : -1000000000000000000 ≤ i ∧ i ≤ 1000000000000000000) : strN [.int i] = some (.str (num i)) := by
  unfold strN
  have : i.natAbs.log2 < 1920 := by
    by_cases z : i.natAbs = 0
    · rw [z]; decide
    · rw [Nat.log2_lt z]
      have : i.natAbs < 2 ^ 60 := by omega
      exact Nat.lt_of_lt_of_le this (Nat.pow_le_pow_right (by decide) (by decide))
  simp only [if_pos this]
  rfl
theorem okN_le {i : Int} (h : okN i = true) : -1000000000000000000 ≤ i ∧ i ≤ 1000000000000000000 := of_decide_eq_true h
theorem rw_len : ∀ w ∈ [Str.ofString "set", Str.ofString "same", Str.ofString "sum", Str.ofString "less", Str.ofString "hold", Str.ofString "call", Str.ofString "last", Str.ofString "give", Str.ofString "keep", Str.ofString "kept", Str.ofString "skip", Str.ofString "over", Str.ofString "on", Str.ofString "count", Str.ofString "ask", Str.ofString "deed", Str.ofString "done", Str.ofString "piece", bang], w.length ≤ 8 := by decide +kernel
theorem args20 {as : List Str} (h : argsS as = true) : ∀ w ∈ as, w.length ≤ 20 := fun w hw => Nat.le_trans (word_len (args_words h w hw)) (by decide)
theorem leaves20 {as : List Str} (h : leavesS as = true) : ∀ w ∈ as, w.length ≤ 20 := fun w hw => Nat.le_trans (word_len (leaves_words h w hw)) (by decide)
theorem w20 {w : Str} (h : isWordS w = true) : w.length ≤ 20 := Nat.le_trans (word_len h) (by decide)
theorem k20 {w : Str} (h : w ∈ [Str.ofString "set", Str.ofString "same", Str.ofString "sum", Str.ofString "less", Str.ofString "hold", Str.ofString "call", Str.ofString "last", Str.ofString "give", Str.ofString "keep", Str.ofString "kept", Str.ofString "skip", Str.ofString "over", Str.ofString "on", Str.ofString "count", Str.ofString "ask", Str.ofString "deed", Str.ofString "done", Str.ofString "piece", bang]) : w.length ≤ 20 := Nat.le_trans (rw_len w h) (by decide)
theorem fit_words {r : Row} (h : Fit r) : (∀ w ∈ wd r, w.length ≤ 20) ∧ (wd r).length ≤ 20 := by
  obtain ⟨h1, h2⟩ := h
  cases r with
  | set x n =>
    simp only [Row.ok, Bool.and_eq_true] at h1
    refine ⟨fun w hw => ?_, by simp [wd]⟩
    simp only [wd, List.mem_cons, List.not_mem_nil, or_false] at hw
    rcases hw with rfl | rfl | rfl
    · exact k20 (by simp)
    · exact w20 h1.1
    · exact num_len (okN_le h1.2)
  | same x a =>
    simp only [Row.ok, Bool.and_eq_true] at h1
    refine ⟨fun w hw => ?_, by simp [wd]⟩
    simp only [wd, List.mem_cons, List.not_mem_nil, or_false] at hw
    rcases hw with rfl | rfl | rfl
    · exact k20 (by simp)
    · exact w20 h1.1
    · exact w20 h1.2
  | sum x a b =>
    simp only [Row.ok, Bool.and_eq_true] at h1
    refine ⟨fun w hw => ?_, by simp [wd]⟩
    simp only [wd, List.mem_cons, List.not_mem_nil, or_false] at hw
    rcases hw with rfl | rfl | rfl | rfl
    · exact k20 (by simp)
    · exact w20 h1.1.1
    · exact w20 h1.1.2
    · exact w20 h1.2
  | less x a b =>
    simp only [Row.ok, Bool.and_eq_true] at h1
    refine ⟨fun w hw => ?_, by simp [wd]⟩
    simp only [wd, List.mem_cons, List.not_mem_nil, or_false] at hw
    rcases hw with rfl | rfl | rfl | rfl
    · exact k20 (by simp)
    · exact w20 h1.1.1
    · exact w20 h1.1.2
    · exact w20 h1.2
  | hold x n as =>
    simp only [Row.ok, Bool.and_eq_true] at h1
    have := args_len h1.2
    refine ⟨fun w hw => ?_, by simp [wd]; omega⟩
    simp only [wd, List.cons_append, List.nil_append, List.mem_cons] at hw
    rcases hw with rfl | rfl | rfl | hw
    · exact k20 (by simp)
    · exact w20 h1.1.1
    · exact w20 h1.1.2
    · exact args20 h1.2 w hw
  | call x f as vs =>
    simp only [Row.ok, Bool.and_eq_true] at h1
    have l1 := args_len h1.1.2
    have l2 := leaves_len h1.2
    refine ⟨fun w hw => ?_, by simp [wd]; omega⟩
    simp only [wd, List.cons_append, List.nil_append, List.mem_cons, List.mem_append] at hw
    rcases hw with rfl | rfl | rfl | hw | rfl | hw
    · exact k20 (by simp)
    · exact w20 h1.1.1.1
    · exact w20 h1.1.1.2
    · exact args20 h1.1.2 w hw
    · exact k20 (by simp)
    · exact leaves20 h1.2 w hw
  | last f as vs =>
    simp only [Row.ok, Bool.and_eq_true] at h1
    have l1 := args_len h1.1.2
    have l2 := leaves_len h1.2
    refine ⟨fun w hw => ?_, by simp [wd]; omega⟩
    simp only [wd, List.cons_append, List.nil_append, List.mem_cons, List.mem_append] at hw
    rcases hw with rfl | rfl | hw | rfl | hw
    · exact k20 (by simp)
    · exact w20 h1.1.1
    · exact args20 h1.1.2 w hw
    · exact k20 (by simp)
    · exact leaves20 h1.2 w hw
  | give a =>
    refine ⟨fun w hw => ?_, by simp [wd]⟩
    simp only [wd, List.mem_cons, List.not_mem_nil, or_false] at hw
    rcases hw with rfl | rfl
    · exact k20 (by simp)
    · exact w20 h1
  | keep x a =>
    simp only [Row.ok, Bool.and_eq_true] at h1
    refine ⟨fun w hw => ?_, by simp [wd]⟩
    simp only [wd, List.mem_cons, List.not_mem_nil, or_false] at hw
    rcases hw with rfl | rfl | rfl
    · exact k20 (by simp)
    · exact w20 h1.1
    · exact w20 h1.2
  | kept x a =>
    simp only [Row.ok, Bool.and_eq_true] at h1
    refine ⟨fun w hw => ?_, by simp [wd]⟩
    simp only [wd, List.mem_cons, List.not_mem_nil, or_false] at hw
    rcases hw with rfl | rfl | rfl
    · exact k20 (by simp)
    · exact w20 h1.1
    · exact w20 h1.2
  | skip a k =>
    simp only [Row.ok, Bool.and_eq_true, decide_eq_true_eq] at h1
    have h2 : k ≤ 60 := h2
    refine ⟨fun w hw => ?_, by simp [wd]⟩
    simp only [wd, List.mem_cons, List.not_mem_nil, or_false] at hw
    rcases hw with rfl | rfl | rfl
    · exact k20 (by simp)
    · exact w20 h1.1
    · exact num_len ⟨by omega, by omega⟩
  | over k =>
    simp only [Row.ok, decide_eq_true_eq] at h1
    have h2 : k ≤ 60 := h2
    refine ⟨fun w hw => ?_, by simp [wd]⟩
    simp only [wd, List.mem_cons, List.not_mem_nil, or_false] at hw
    rcases hw with rfl | rfl
    · exact k20 (by simp)
    · exact num_len ⟨by omega, by omega⟩
  | on =>
    refine ⟨fun w hw => ?_, by simp [wd]⟩
    simp only [wd, List.mem_cons, List.not_mem_nil, or_false] at hw
    subst hw
    exact k20 (by simp)
  | count =>
    refine ⟨fun w hw => ?_, by simp [wd]⟩
    simp only [wd, List.mem_cons, List.not_mem_nil, or_false] at hw
    subst hw
    exact k20 (by simp)
  | ask w' k =>
    simp only [Row.ok, Bool.and_eq_true, decide_eq_true_eq] at h1
    have h2 : k ≤ 60 := h2
    refine ⟨fun w hw => ?_, by simp [wd]⟩
    simp only [wd, List.mem_cons, List.not_mem_nil, or_false] at hw
    rcases hw with rfl | rfl | rfl
    · exact k20 (by simp)
    · exact w20 h1.1
    · exact num_len ⟨by omega, by omega⟩
  | deed x a =>
    simp only [Row.ok, Bool.and_eq_true] at h1
    refine ⟨fun w hw => ?_, by simp [wd]⟩
    simp only [wd, List.mem_cons, List.not_mem_nil, or_false] at hw
    rcases hw with rfl | rfl | rfl
    · exact k20 (by simp)
    · exact w20 h1.1
    · exact w20 h1.2
  | done x a =>
    simp only [Row.ok, Bool.and_eq_true] at h1
    refine ⟨fun w hw => ?_, by simp [wd]⟩
    simp only [wd, List.mem_cons, List.not_mem_nil, or_false] at hw
    rcases hw with rfl | rfl | rfl
    · exact k20 (by simp)
    · exact w20 h1.1
    · exact w20 h1.2
/-- the words of a part -/
inductive PW : U → List Str → Prop
  | str (a : Str) : PW (.str a) [a]
  | int (i : Int) (h : -1000000000000000000 ≤ i ∧ i ≤ 1000000000000000000) : PW (.int i) [num i]
  | tup (ws : List Str) (h : ws.length ≤ 100) : PW (tS ws) ws
end TX
namespace TX
open PySem L2 D C
abbrev wOver : Str := Str.ofString "over"
def kw : Row → Str
  | .set _ _ => Str.ofString "set"
  | .same _ _ => Str.ofString "same"
  | .sum _ _ _ => Str.ofString "sum"
  | .less _ _ _ => Str.ofString "less"
  | .hold _ _ _ => Str.ofString "hold"
  | .call _ _ _ _ => Str.ofString "call"
  | .last _ _ _ => Str.ofString "last"
  | .give _ => Str.ofString "give"
  | .keep _ _ => Str.ofString "keep"
  | .kept _ _ => Str.ofString "kept"
  | .skip _ _ => Str.ofString "skip"
  | .over _ => Str.ofString "over"
  | .on => Str.ofString "on"
  | .count => Str.ofString "count"
  | .ask _ _ => Str.ofString "ask"
  | .deed _ _ => Str.ofString "deed"
  | .done _ _ => Str.ofString "done"
/-- a part: its sort, itself, its words -/
abbrev Part := Str × U × List Str
def pW (a : Str) : Part := (wWord, .str a, [a])
def pN (i : Int) : Part := (wNumber, .int i, [num i])
def pO (i : Int) : Part := (wOver, .int i, [num i])
def pA (as : List Str) : Part := (wArgs, tS as, as)
def pL (as : List Str) : Part := (wLeaves, tS as, as)
def pt : Row → List Part
  | .set x n => [pW x, pN n]
  | .same x a => [pW x, pW a]
  | .sum x a b => [pW x, pW a, pW b]
  | .less x a b => [pW x, pW a, pW b]
  | .hold x n as => [pW x, pW n, pA as]
  | .call x f as vs => [pW x, pW f, pA as, pL vs]
  | .last f as vs => [pW f, pA as, pL vs]
  | .give a => [pW a]
  | .keep c a => [pW c, pW a]
  | .kept x c => [pW x, pW c]
  | .skip a k => [pW a, pO k]
  | .over k => [pO k]
  | .on => []
  | .count => []
  | .ask w k => [pW w, pO k]
  | .deed w a => [pW w, pW a]
  | .done w a => [pW w, pW a]
def outW (p : Part) : List Str := if p.1 = wLeaves then bang :: p.2.2 else p.2.2
theorem row_pt (r : Row) : r.u = .tup (.str (kw r) :: (pt r).map fun p => p.2.1) := by cases r <;> rfl
theorem nWL : wWord ≠ wLeaves := by decide +kernel
theorem nNL : wNumber ≠ wLeaves := by decide +kernel
theorem nOL : wOver ≠ wLeaves := by decide +kernel
theorem nAL : wArgs ≠ wLeaves := by decide +kernel
theorem out_W (a : Str) : outW (pW a) = [a] := if_neg nWL
theorem out_N (a : Int) : outW (pN a) = [num a] := if_neg nNL
theorem out_O (a : Int) : outW (pO a) = [num a] := if_neg nOL
theorem out_A (a : List Str) : outW (pA a) = a := if_neg nAL
theorem out_L (a : List Str) : outW (pL a) = bang :: a := if_pos rfl
theorem wd_pt (r : Row) : wd r = kw r :: (pt r).flatMap outW := by
  cases r <;> simp [wd, kw, pt, out_W, out_N, out_O, out_A, out_L]
theorem mem2 {P : Part → Prop} {a b : Part} (ha : P a) (hb : P b) : ∀ p ∈ [a, b], P p := fun p hp => by
  simp only [List.mem_cons, List.not_mem_nil, or_false] at hp
  rcases hp with rfl | rfl
  · exact ha
  · exact hb
theorem mem1 {P : Part → Prop} {a : Part} (ha : P a) : ∀ p ∈ [a], P p := fun p hp => by rw [List.mem_singleton] at hp; rw [hp]; exact ha
theorem memC {P : Part → Prop} {a : Part} {l : List Part} (ha : P a) (hl : ∀ p ∈ l, P p) : ∀ p ∈ a :: l, P p := fun p hp => by
  rcases List.mem_cons.mp hp with rfl | hp
  · exact ha
  · exact hl p hp
end TX
namespace TX
open PySem L2 D C
theorem pt_len (r : Row) : (pt r).length ≤ 4 := by cases r <;> simp [pt]
theorem nWA : wWord ≠ wArgs := by decide +kernel
theorem nNA : wNumber ≠ wArgs := by decide +kernel
theorem nOA : wOver ≠ wArgs := by decide +kernel
end TX
namespace TX
open PySem L2 D C
theorem rowT_len {r : Row} (h : Fit r) : (rowT r).length ≤ 1000 := by
  obtain ⟨h1, h2⟩ := fit_words h
  have := join_len sp (wd r) 20 h1
  have e : sp.length = 1 := by decide +kernel
  unfold rowT
  rw [e] at this
  omega
theorem head_words {p : Piece} (h : p.ok = true) : (∀ w ∈ headW p, w.length ≤ 20) ∧ (headW p).length ≤ 20 := by
  have hp := (pok_iff p).mp h
  have l1 := args_len hp.params
  have l2 := leaves_len hp.own
  refine ⟨fun w hw => ?_, by unfold headW; simp; omega⟩
  unfold headW at hw
  simp only [List.cons_append, List.nil_append, List.mem_cons, List.mem_append, List.not_mem_nil, or_false, List.append_assoc] at hw
  rcases hw with rfl | rfl | hw | rfl | hw
  · exact k20 (by simp)
  · exact w20 hp.name
  · exact args20 hp.params w hw
  · exact k20 (by simp)
  · exact leaves20 hp.own w hw
theorem headT_len {p : Piece} (h : p.ok = true) : (Txt.join sp (headW p)).length ≤ 1000 := by
  obtain ⟨h1, h2⟩ := head_words h
  have := join_len sp (headW p) 20 h1
  have e : sp.length = 1 := by decide +kernel
  rw [e] at this
  omega
theorem nl_len : (Str.ofString "\n").length = 1 := by decide +kernel
end TX
namespace TX
open PySem L2 D C TL
/-- no blank, no line feed -/
def okC (w : Str) : Prop := ∀ c ∈ TL.tl w, c ≠ 32 ∧ c ≠ 10
theorem letters_ok : ∀ c ∈ letters, c ≠ 32 ∧ c ≠ 10 := by decide +kernel
theorem word_okC {w : Str} (h : isWordS w = true) : okC w := fun c hc => by
  unfold isWordS at h
  simp only [Bool.and_eq_true, List.all_eq_true, decide_eq_true_eq] at h
  exact letters_ok c (h.2 c hc)
theorem tl_eq {a b : Str} (h : TL.tl a = TL.tl b) : a = b := by
  cases a; cases b
  simp only [Str.mk.injEq]
  exact Array.toList_inj.mp h
theorem tl_num' (n : Nat) : TL.tl (num (n : Int)) = numL n := tl_num n
theorem num_neg (n : Nat) : num (-((n + 1 : Nat) : Int)) = Str.ofString "-" ++ num ((n + 1 : Nat) : Int) := by
  unfold num
  have : toString (-((n + 1 : Nat) : Int)) = "-" ++ toString ((n + 1 : Nat) : Int) := rfl
  rw [this]
  exact tl_eq (by rw [TL.tl_append, TL.tl_ofString, TL.tl_ofString, TL.tl_ofString, String.toList_append, List.map_append])
theorem num_okC (i : Int) : okC (num i) := by
  have dg : ∀ n : Nat, okC (num (n : Int)) := fun n c hc => by
    rw [tl_num'] at hc
    have := numL_digits n c hc
    omega
  rcases Int.lt_or_le i 0 with h | h
  · obtain ⟨n, rfl⟩ : ∃ n : Nat, i = -((n + 1 : Nat) : Int) := ⟨(-i).toNat - 1, by omega⟩
    rw [num_neg]
    intro c hc
    rw [TL.tl_append] at hc
    rcases List.mem_append.mp hc with z | z
    · have : ∀ c ∈ TL.tl (Str.ofString "-"), c ≠ 32 ∧ c ≠ 10 := by decide +kernel
      exact this c z
    · exact dg _ c z
  · obtain ⟨n, rfl⟩ := Int.eq_ofNat_of_zero_le h
    exact dg n
theorem kwords_okC : ∀ w ∈ [Str.ofString "set", Str.ofString "same", Str.ofString "sum", Str.ofString "less", Str.ofString "hold", Str.ofString "call", Str.ofString "last", Str.ofString "give", Str.ofString "keep", Str.ofString "kept", Str.ofString "skip", Str.ofString "over", Str.ofString "on", Str.ofString "count", Str.ofString "ask", Str.ofString "deed", Str.ofString "done", Str.ofString "piece", bang], ∀ c ∈ TL.tl w, c ≠ 32 ∧ c ≠ 10 := by decide +kernel
theorem wd_okC {r : Row} (h : r.ok = true) : ∀ w ∈ wd r, okC w := by
  have kk : ∀ w, w ∈ [Str.ofString "set", Str.ofString "same", Str.ofString "sum", Str.ofString "less", Str.ofString "hold", Str.ofString "call", Str.ofString "last", Str.ofString "give", Str.ofString "keep", Str.ofString "kept", Str.ofString "skip", Str.ofString "over", Str.ofString "on", Str.ofString "count", Str.ofString "ask", Str.ofString "deed", Str.ofString "done", Str.ofString "piece", bang] → okC w := kwords_okC
  have ar : ∀ {as : List Str}, argsS as = true → ∀ w ∈ as, okC w := fun ha w hw => word_okC (args_words ha w hw)
  have le : ∀ {as : List Str}, leavesS as = true → ∀ w ∈ as, okC w := fun ha w hw => word_okC (leaves_words ha w hw)
  cases r <;> simp only [Row.ok, Bool.and_eq_true] at h <;> intro w hw <;> simp only [wd, List.mem_cons, List.mem_append, List.not_mem_nil, or_false] at hw
  case set =>
    rcases hw with rfl | rfl | rfl
    · exact kk _ (by simp)
    · exact word_okC h.1
    · exact num_okC _
  case same =>
    rcases hw with rfl | rfl | rfl
    · exact kk _ (by simp)
    · exact word_okC h.1
    · exact word_okC h.2
  case sum =>
    rcases hw with rfl | rfl | rfl | rfl
    · exact kk _ (by simp)
    · exact word_okC h.1.1
    · exact word_okC h.1.2
    · exact word_okC h.2
  case less =>
    rcases hw with rfl | rfl | rfl | rfl
    · exact kk _ (by simp)
    · exact word_okC h.1.1
    · exact word_okC h.1.2
    · exact word_okC h.2
  case hold =>
    rcases hw with (rfl | rfl | rfl) | z
    · exact kk _ (by simp)
    · exact word_okC h.1.1
    · exact word_okC h.1.2
    · exact ar h.2 w z
  case call =>
    rcases hw with ((rfl | rfl | rfl) | z) | rfl | z
    · exact kk _ (by simp)
    · exact word_okC h.1.1.1
    · exact word_okC h.1.1.2
    · exact ar h.1.2 w z
    · exact kk _ (by simp)
    · exact le h.2 w z
  case last =>
    rcases hw with ((rfl | rfl) | z) | rfl | z
    · exact kk _ (by simp)
    · exact word_okC h.1.1
    · exact ar h.1.2 w z
    · exact kk _ (by simp)
    · exact le h.2 w z
  case give =>
    rcases hw with rfl | rfl
    · exact kk _ (by simp)
    · exact word_okC h
  case keep =>
    rcases hw with rfl | rfl | rfl
    · exact kk _ (by simp)
    · exact word_okC h.1
    · exact word_okC h.2
  case kept =>
    rcases hw with rfl | rfl | rfl
    · exact kk _ (by simp)
    · exact word_okC h.1
    · exact word_okC h.2
  case skip =>
    rcases hw with rfl | rfl | rfl
    · exact kk _ (by simp)
    · exact word_okC h.1
    · exact num_okC _
  case over =>
    rcases hw with rfl | rfl
    · exact kk _ (by simp)
    · exact num_okC _
  case on => rw [hw]; exact kk _ (by simp)
  case count => rw [hw]; exact kk _ (by simp)
  case ask =>
    rcases hw with rfl | rfl | rfl
    · exact kk _ (by simp)
    · exact word_okC h.1
    · exact num_okC _
  case deed =>
    rcases hw with rfl | rfl | rfl
    · exact kk _ (by simp)
    · exact word_okC h.1
    · exact word_okC h.2
  case done =>
    rcases hw with rfl | rfl | rfl
    · exact kk _ (by simp)
    · exact word_okC h.1
    · exact word_okC h.2
theorem head_okC {p : Piece} (h : p.ok = true) : ∀ w ∈ headW p, okC w := fun w hw => by
  have hP := (pok_iff p).mp h
  simp only [headW, List.mem_append, List.mem_cons, List.not_mem_nil, or_false] at hw
  rcases hw with (((rfl | rfl) | z) | rfl) | z
  · exact kwords_okC _ (by simp)
  · exact word_okC hP.name
  · exact word_okC (args_words hP.params w z)
  · exact kwords_okC _ (by simp)
  · exact word_okC (leaves_words hP.own w z)
theorem tl_sp : TL.tl sp = [32] := by decide +kernel
theorem tl_nl : TL.tl nl = [10] := by decide +kernel
theorem split_sp {ws : List Str} (hne : ws ≠ []) (h : ∀ w ∈ ws, okC w) : Txt.split (Txt.join sp ws) sp = ws := TL.split_join (s := 32) (S := []) tl_sp (by decide +kernel) hne fun p hp z => (h p hp 32 z).1 rfl
theorem joinL_mem {c : Nat} (s : List Nat) : ∀ {ls : List (List Nat)}, c ∈ joinL s ls → c ∈ s ∨ ∃ l ∈ ls, c ∈ l
  | [], h => nomatch h
  | [x], h => .inr ⟨x, List.mem_cons_self .., h⟩
  | x :: y :: r, h => by
    have h : c ∈ x ++ (s ++ joinL s (y :: r)) := h
    rcases List.mem_append.mp h with z | z
    · exact .inr ⟨x, List.mem_cons_self .., z⟩
    · rcases List.mem_append.mp z with z | z
      · exact .inl z
      · rcases joinL_mem s z with z | ⟨l, hl, z⟩
        · exact .inl z
        · exact .inr ⟨l, List.mem_cons_of_mem _ hl, z⟩
theorem line_nl {ws : List Str} (h : ∀ w ∈ ws, okC w) : 10 ∉ TL.tl (Txt.join sp ws) := fun z => by
  rw [TL.join_eq, TL.tl_join] at z
  rcases joinL_mem _ z with z | ⟨l, hl, z⟩
  · rw [tl_sp] at z; simp at z
  · obtain ⟨w, hw, rfl⟩ := List.mem_map.mp hl
    exact (h w hw 10 z).2 rfl
theorem join_cons (s x : Str) {r : List Str} (h : r ≠ []) : Str.join s (x :: r) = x ++ s ++ Str.join s r := by
  cases r with
  | nil => exact absurd rfl h
  | cons y r => rfl
theorem str_assoc (a b c : Str) : a ++ b ++ c = a ++ (b ++ c) := tl_eq (by simp only [TL.tl_append, List.append_assoc])
theorem join_app (s : Str) : ∀ {a b : List Str}, a ≠ [] → b ≠ [] → Str.join s (a ++ b) = Str.join s a ++ s ++ Str.join s b
  | [], _, h, _ => absurd rfl h
  | [x], b, _, hb => join_cons s x hb
  | x :: y :: r, b, _, hb => by
    have e := join_app s (a := y :: r) (b := b) (by simp) hb
    show x ++ s ++ Str.join s ((y :: r) ++ b) = x ++ s ++ Str.join s (y :: r) ++ s ++ Str.join s b
    rw [e]
    simp only [str_assoc]
theorem numL_head (n : Nat) : n ≠ 0 → ∃ c r, numL n = c :: r ∧ c ≠ 48 := by
  induction n using Nat.strongRecOn with
  | _ n ih =>
    intro hn
    by_cases h : n < 10
    · exact ⟨48 + n, [], numL_lt h, by omega⟩
    · obtain ⟨c, r, e, hc⟩ := ih (n / 10) (by omega) (by omega)
      exact ⟨c, r ++ [48 + n % 10], by rw [numL_step (by omega), e]; rfl, hc⟩
end TX
namespace T_allcallers_k13_ends_and_bounds
open PySem L2 D C TX TL
theorem tl_cutS (x : Str) (lo hi : Option Int) : TL.tl (cutS x lo hi) = cutL (TL.tl x) lo hi := by
  unfold cutS cutL
  rw [TL.len_tl]
theorem one_c (c : Nat) : TL.tl (⟨#[c]⟩ : Str) = [c] := rfl
def figs : List Nat := [48, 49, 50, 51, 52, 53, 54, 55, 56, 57]
theorem figs_eq : (Str.ofString "0123456789").cps.toList = figs := by decide +kernel
/-- a text of figures -/
theorem number_core (x : Str) (n : Nat) (hx : TL.tl x = numL n) (hi : intText? x = some (n : Int)) (hl : x.length ≤ 60) (st : Store) : f_number_of [.str x] st = .ok (.int (n : Int)) st := by
  have hne : ¬ x = Str.ofString "" := fun e => by
    rw [e] at hx
    have z : TL.tl (Str.ofString "") = [] := by decide +kernel
    rw [z] at hx
    exact numL_ne n hx.symm
  obtain ⟨c, r, hcr⟩ : ∃ c r, numL n = c :: r := by
    cases q : numL n with
    | nil => exact absurd q (numL_ne n)
    | cons c r => exact ⟨c, r, rfl⟩
  have i0 : ix2 (.str x) (.int 0) = some (.str ⟨#[c]⟩) := by
    show (if x.length ≤ sizeLine then (atI x.cps.toList 0).map _ else none) = _
    rw [if_pos (by rw [sizeLine_val]; omega), show x.cps.toList = c :: r by rw [← hcr]; exact hx, show atI (c :: r) 0 = some c from atI_cast (c :: r) 0]
    rfl
  have zero : ⟨#[c]⟩ = Str.ofString "0" → x = Str.ofString "0" := fun e => by
    by_cases hn : n = 0
    · subst hn
      refine tl_eq ?_
      rw [hx]
      decide +kernel
    · obtain ⟨c', r', e1, e2⟩ := numL_head n hn
      rw [hcr] at e1
      cases e1
      have : TL.tl (⟨#[c]⟩ : Str) = TL.tl (Str.ofString "0") := by rw [e]
      have z : TL.tl (Str.ofString "0") = [48] := by decide +kernel
      rw [z, one_c] at this
      simp at this
      exact absurd this e2
  have it : items (.str x) = some ((numL n).map fun c => U.str ⟨#[c]⟩) := by
    show some (x.cps.toList.map fun c => U.str ⟨#[c]⟩) = _
    rw [show x.cps.toList = numL n from hx]
  obtain ⟨env', he, s1, rfl⟩ : ∃ env', forL (tgN 1) t1_number_of ((numL n).map fun c => U.str ⟨#[c]⟩) [.val (.str x), .un] st = .nx env' st ∧ ∃ s1, env' = [.val (.str x), s1] := by
    rcases for_first (st := st) (t := tgN 1) (b := t1_number_of) (f := fun c : Nat => U.str ⟨#[c]⟩) (fun env => ∃ s1, env = [.val (.str x), s1]) (fun c => !decide (c ∈ figs)) (fun _ => .non) (numL n) [.val (.str x), .un] ⟨_, rfl⟩ (fun c hc env ⟨s1, he⟩ => ⟨_, rfl, by
      rw [he]
      have dg := numL_digits n c hc
      have hm : c ∈ figs := by simp only [figs, List.mem_cons, List.not_mem_nil, or_false]; omega
      have nn : nin2 (.str ⟨#[c]⟩) (.str (Str.ofString "0123456789")) = some (.bl false) := by
        show (if (1 : Nat) = 1 then some (U.bl (!decide (c ∈ (Str.ofString "0123456789").cps.toList))) else none) = _
        rw [if_pos rfl, figs_eq, decide_eq_true hm]; rfl
      rw [decide_eq_true hm]
      rw [if_neg (by simp)]
      refine ⟨[.val (.str x), .val (.str ⟨#[c]⟩)], ?_, _, rfl⟩
      show t1_number_of [.val (.str x), .val (.str ⟨#[c]⟩)] st = _
      unfold t1_number_of
      simp [nn]⟩) with ⟨y, f1, f2⟩ | ⟨f1, env', f2, f3⟩
    · exfalso
      have := List.find?_some f1
      have hy := List.mem_of_find?_eq_some f1
      have dg := numL_digits n y hy
      have hm : y ∈ figs := by simp only [figs, List.mem_cons, List.not_mem_nil, or_false]; omega
      rw [decide_eq_true hm] at this
      cases this
    · exact ⟨env', f2, f3⟩
  have ia : intAN [.str x] = some (.int (n : Int)) := by
    show (if x.length ≤ 640 then (intText? x).map U.int else none) = _
    rw [if_pos (by omega), hi]; rfl
  have xl : x.length ≤ 16777216 := by omega
  have ln : lenN [.str x] = some (.int (x.length : Int)) := by simp [xl]
  have l60 : ¬ (60 : Int) < (x.length : Int) := by omega
  have zl : ((numL n).map fun c => U.str ⟨#[c]⟩).length ≤ 16777216 := by rw [List.length_map, ← hx, ← TL.len_tl]; omega
  unfold f_number_of b_number_of
  generalize (numL n).map (fun c => U.str ⟨#[c]⟩) = LL at *
  by_cases q : (⟨#[c]⟩ : Str) = Str.ofString "0"
  · have e0 := zero q
    have e0' : (x = Str.ofString "0") = True := eq_true e0
    have q' : ((⟨#[c]⟩ : Str) = Str.ofString "0") = True := eq_true q
    have ne' : (x = Str.ofString "") = False := eq_false hne
    simp [ne', i0, q', e0', it, he, ln, l60, ia]
  · have q' : ((⟨#[c]⟩ : Str) = Str.ofString "0") = False := eq_false q
    have ne' : (x = Str.ofString "") = False := eq_false hne
    simp [ne', i0, q', it, he, ln, l60, ia]
theorem num_small (n : Nat) (h : n ≤ 1000000000000000000) : (num (n : Int)).length ≤ 60 ∧ intText? (num (n : Int)) = some (n : Int) := by
  have l : (numL n).length ≤ 19 := numL_len (by decide) (by omega)
  exact ⟨by rw [TL.len_tl, tl_num']; omega, int_num (by omega)⟩
theorem number_ev (n : Nat) (h : n ≤ 1000000000000000000) (st : Store) : f_number_of [.str (num (n : Int))] st = .ok (.int (n : Int)) st := number_core _ n (tl_num' n) (num_small n h).2 (num_small n h).1 st
theorem signed_ev (i : Int) (h : -1000000000000000000 ≤ i ∧ i ≤ 1000000000000000000) (st : Store) : f_signed [.str (num i)] st = .ok (.int i) st := by
  have mn : TL.tl (Str.ofString "-") = [45] := by decide +kernel
  rcases Int.lt_or_le i 0 with z | z
  · obtain ⟨n, rfl⟩ : ∃ n : Nat, i = -((n + 1 : Nat) : Int) := ⟨(-i).toNat - 1, by omega⟩
    have tn : TL.tl (num (-((n + 1 : Nat) : Int))) = 45 :: numL (n + 1) := by rw [num_neg, TL.tl_append, mn, tl_num']; rfl
    have c1 : cutS (num (-((n + 1 : Nat) : Int))) none (some 1) = Str.ofString "-" := tl_eq (by rw [tl_cutS, tn, mn, cutL_toL]; rfl)
    have c2 : cutS (num (-((n + 1 : Nat) : Int))) (some 1) none = num ((n + 1 : Nat) : Int) := tl_eq (by rw [tl_cutS, tn, cutL_fromL, tl_num']; rfl)
    have nz : ¬ num (-((n + 1 : Nat) : Int)) = Str.ofString "-0" := fun e => by
      have e2 := congrArg TL.tl e
      rw [tn] at e2
      have t0 : TL.tl (Str.ofString "-0") = [45, 48] := by decide +kernel
      rw [t0] at e2
      obtain ⟨c, r, e3, e4⟩ := numL_head (n + 1) (by omega)
      rw [e3] at e2
      simp at e2
      exact e4 e2.1
    have nv := number_ev (n + 1) (by omega) st
    have ll : (num (-((n + 1 : Nat) : Int))).length ≤ 16777216 := Nat.le_trans (num_len h) (by decide)
    have s1 : sl3 (.str (num (-((n + 1 : Nat) : Int)))) none (some 1) = some (.str (Str.ofString "-")) := by rw [D.sl_str, if_pos ll, c1]
    have s2 : sl3 (.str (num (-((n + 1 : Nat) : Int)))) (some 1) none = some (.str (num ((n + 1 : Nat) : Int))) := by rw [D.sl_str, if_pos ll, c2]
    unfold f_signed b_signed
    generalize num (-((n + 1 : Nat) : Int)) = N1 at *
    generalize num ((n + 1 : Nat) : Int) = N2 at *
    have nz' : (N1 = Str.ofString "-0") = False := eq_false nz
    have fin0 : (0 : Int) - ((n + 1 : Nat) : Int) = -((n + 1 : Nat) : Int) := by omega
    generalize ((n + 1 : Nat) : Int) = M at *
    simp [s1, s2, nz', nv, fin0, -D.sl_str]
  · obtain ⟨n, rfl⟩ := Int.eq_ofNat_of_zero_le z
    have nv := number_ev n (by omega) st
    have ll : (num (n : Int)).length ≤ 16777216 := Nat.le_trans (num_len h) (by decide)
    have c1 : ¬ cutS (num (n : Int)) none (some 1) = Str.ofString "-" := fun e => by
      have e2 := congrArg TL.tl e
      rw [tl_cutS, tl_num', mn, cutL_toL] at e2
      have : 45 ∈ numL n := List.mem_of_mem_take (by rw [e2]; simp)
      exact numL_free (n := n) (s := 45) (by omega) this
    have s1 : sl3 (.str (num (n : Int))) none (some 1) = some (.str (cutS (num (n : Int)) none (some 1))) := by rw [D.sl_str, if_pos ll]
    unfold f_signed b_signed
    have c1' : (cutS (num (n : Int)) none (some 1) = Str.ofString "-") = False := eq_false c1
    generalize cutS (num (n : Int)) none (some 1) = CC at *
    generalize num (n : Int) = N1 at *
    simp [s1, c1', nv, -D.sl_str]
end T_allcallers_k13_ends_and_bounds
namespace T_allcallers_k13_ends_and_bounds
open PySem L2 D C TX TL
theorem is_row_eq : f_is_row = C.f_is_row := rfl
theorem is_head_eq : f_is_head = C.f_is_head := rfl
theorem leaves_in_eq : f_leaves_in = C.f_leaves_in := rfl
theorem bad_row_eq : f_bad_row = C.f_bad_row := rfl
theorem txtsOf_map : ∀ ws : List Str, txtsOf (ws.map U.str) = some ws
  | [] => rfl
  | w :: ws => by
    show (txtsOf (ws.map U.str)).map (w :: ·) = _
    rw [txtsOf_map ws]; rfl
theorem idx_bang {as vs : List Str} (h : bang ∉ as) : (as ++ bang :: vs).idxOf bang = as.length := by
  induction as with
  | nil => simp
  | cons a as ih =>
    have hn : a ≠ bang := fun e => h (by rw [e]; exact List.mem_cons_self ..)
    rw [List.cons_append, List.idxOf_cons, ih (fun z => h (List.mem_cons_of_mem _ z))]
    have : (a == bang) = false := beq_eq_false_iff_ne.mpr hn
    rw [this]; rfl
theorem count_bang {as vs : List Str} (h : bang ∉ as) (h2 : bang ∉ vs) : (as ++ bang :: vs).count bang = 1 := by
  rw [List.count_append, List.count_cons_self, List.count_eq_zero.mpr h, List.count_eq_zero.mpr h2]
theorem parted_ev (as vs : List Str) (h : bang ∉ as) (h2 : bang ∉ vs) (hl : as.length + vs.length ≤ 900) (st : Store) : f_parted [lS (as ++ bang :: vs)] st = .ok (.tup [tS as, tS vs]) st := by
  have s1 : strsU ((as ++ bang :: vs).map U.str) = some (as ++ bang :: vs) := strs_map _
  have ct : (as ++ bang :: vs).count (Str.ofString "!") = 1 := count_bang h h2
  have ix : idx2 (.lst ((as ++ bang :: vs).map U.str)) (.str (Str.ofString "!")) = some (.int (as.length : Nat)) := by
    show (txtsOf _).bind _ = _
    rw [txtsOf_map, Option.bind_some, if_pos ⟨by show bang ∈ _; simp, by simp; omega⟩]
    show some (U.int ((as ++ bang :: vs).idxOf bang : Nat)) = _
    rw [idx_bang h]
  have c1 : sl3 (.lst ((as ++ bang :: vs).map U.str)) none (some (as.length : Int)) = some (.lst (as.map U.str)) := by
    rw [D.sl_lst, cutL_to, ← List.map_take, List.take_left]
  have c2 : sl3 (.lst ((as ++ bang :: vs).map U.str)) (some ((as.length : Int) + 1)) none = some (.lst (vs.map U.str)) := by
    have := cutL_from ((as ++ bang :: vs).map U.str) (as.length + 1)
    rw [show ((as.length + 1 : Nat) : Int) = (as.length : Int) + 1 by omega] at this
    rw [D.sl_lst, this, ← List.map_drop, List.drop_append, List.drop_eq_nil_of_le (by omega)]
    simp
  have sz : ((as ++ bang :: vs).map U.str).length ≤ 16777216 := by simp; omega
  unfold f_parted b_parted
  rw [show lS (as ++ bang :: vs) = .lst ((as ++ bang :: vs).map U.str) from rfl, show tS as = .tup (as.map U.str) from rfl, show tS vs = .tup (vs.map U.str) from rfl]
  generalize (as ++ bang :: vs).map U.str = LL at *
  generalize as.map U.str = AA at *
  generalize vs.map U.str = VV at *
  simp [s1, ct, idxD, ix, c1, c2, -D.sl_lst]
theorem word_bang {w : Str} (h : isWordS w = true) : w ≠ bang := fun e => by
  rw [e] at h
  have : isWordS bang = false := by decide +kernel
  rw [this] at h; cases h
theorem words_bang {as : List Str} (h : ∀ w ∈ as, isWordS w = true) : bang ∉ as := fun z => word_bang (h _ z) rfl
theorem head_of_ev {p : Piece} (h : p.ok = true) (st : Store) : f_head_of [lS (headW p)] st = .ok (.tup [.str p.name, tS p.own, tS p.params]) st := by
  have hP := (pok_iff p).mp h
  have pa := parted_ev p.params p.own (words_bang (args_words hP.params)) (words_bang (leaves_words hP.own)) (by have := args_len hP.params; have := leaves_len hP.own; omega) st
  have ok' : ({ p with rows := [Row.on] } : Piece).ok = true := (pok_iff _).mpr ⟨hP.name, hP.own, hP.params, hP.nodup, by simp, by simp, by
    intro r hr
    have : r = Row.on := by simpa using hr
    rw [this]; rfl, by
    intro k hk
    have hk0 : k = 0 := by
      have : k < 1 := hk
      omega
    subst hk0
    show ((0 : Nat) : Int) + 1 + Row.on.goes ≤ (([Row.on] : List Row).length : Nat)
    decide⟩
  have hu : headU (.tup [.str p.name, tS p.own, tS p.params, .tup [.tup [.str (Str.ofString "on")]]]) = true := by
    have e : Piece.ok { p with rows := [Row.on] } = (headU (Piece.u { p with rows := [Row.on] }) && (badAt (([Row.on] : List Row).map Row.u)).isNone) := rfl
    rw [e, Bool.and_eq_true] at ok'
    exact ok'.1
  have ih := is_head_ev (tame4_3 (piece_tame { p with rows := [Row.on] } ok')) st
  rw [← is_head_eq] at ih
  have ih : f_is_head [.tup [.str p.name, tS p.own, tS p.params, .tup [.tup [.str (Str.ofString "on")]]]] st = .ok (.bl true) st := by
    rw [← hu]; exact ih
  have eL : (headW p).map U.str = .str (Str.ofString "piece") :: .str p.name :: (p.params ++ bang :: p.own).map U.str := by
    unfold headW; simp
  have sl : sl3 (lS (headW p)) (some 2) none = some (lS (p.params ++ bang :: p.own)) := by
    show sl3 (.lst ((headW p).map U.str)) (some 2) none = _
    rw [D.sl_lst, eL, cutL_fromL]; rfl
  have i0 : ix2 (lS (headW p)) (.int 0) = some (.str (Str.ofString "piece")) := by
    show ix2 (.lst ((headW p).map U.str)) (.int 0) = _
    rw [eL]; exact atI_cast _ 0
  have i1 : ix2 (lS (headW p)) (.int 1) = some (.str p.name) := by
    show ix2 (.lst ((headW p).map U.str)) (.int 1) = _
    rw [eL]; exact atI_cast _ 1
  have ln : lenN [lS (headW p)] = some (.int (((headW p).length : Nat) : Int)) := by show lenN [.lst ((headW p).map U.str)] = _; simp
  have l2 : ¬ ((headW p).length : Int) < 2 := by
    have : (headW p).length = ((headW p).map U.str).length := (List.length_map ..).symm
    rw [this, eL]
    simp
    omega
  unfold f_head_of b_head_of
  generalize lS (p.params ++ bang :: p.own) = PB at *
  generalize lS (headW p) = HW at *
  generalize tS p.own = TO at *
  generalize tS p.params = TP at *
  simp [ln, l2, i0, i1, sl, pa, ih]
end T_allcallers_k13_ends_and_bounds
namespace T_allcallers_k13_ends_and_bounds
open PySem L2 D C TX TL
theorem noRefs_strs : ∀ ws : List Str, noRefs (ws.map U.str) = true
  | [] => by unfold noRefs; rfl
  | w :: ws => by
    rw [List.map_cons]
    unfold noRefs
    rw [noRefs_strs ws]
    unfold noRef
    rfl
theorem noRef_lS (ws : List Str) : noRef (.lst (ws.map U.str)) = true := by unfold noRef; exact noRefs_strs ws
theorem tupUs_strs : ∀ ws : List Str, tupUs (ws.map U.str) = true
  | [] => by unfold tupUs; rfl
  | w :: ws => by
    rw [List.map_cons]
    unfold tupUs
    rw [tupUs_strs ws]
    unfold tupU
    rfl
theorem tupU_2 (as vs : List Str) : tupU (.tup [tS as, tS vs]) = true := by
  have e1 : tupU (tS as) = true := by show tupU (.tup (as.map U.str)) = true; unfold tupU; exact tupUs_strs as
  have e2 : tupU (tS vs) = true := by show tupU (.tup (vs.map U.str)) = true; unfold tupU; exact tupUs_strs vs
  unfold tupU tupUs
  rw [e1]
  unfold tupUs
  rw [e2]
  unfold tupUs
  rfl
/-- a part that stands for one word -/
def Pop (p : Part) (w : Str) : Prop := outW p = [w] ∧ p.1 ≠ wArgs ∧ p.1 ≠ wLeaves ∧ ∀ st, f_part_of [.str p.1, .str w] st = .ok p.2.1 st
theorem pop_W (a : Str) : Pop (pW a) a := ⟨out_W a, nWA, nWL, fun st => by
  have n1 : ¬ wWord = Str.ofString "number" := by decide +kernel
  have n2 : ¬ wWord = Str.ofString "over" := by decide +kernel
  show f_part_of [.str wWord, .str a] st = .ok (.str a) st
  unfold f_part_of b_part_of
  generalize wWord = W at *
  simp [n1, n2]⟩
theorem pop_N {i : Int} (h : -1000000000000000000 ≤ i ∧ i ≤ 1000000000000000000) : Pop (pN i) (num i) := ⟨out_N i, nNA, nNL, fun st => by
  have e := signed_ev i h st
  have n1 : wNumber = Str.ofString "number" := rfl
  show f_part_of [.str wNumber, .str (num i)] st = .ok (.int i) st
  rw [n1]
  unfold f_part_of b_part_of
  simp [e]⟩
theorem pop_O {i : Int} (h0 : 0 ≤ i) (h : i ≤ 1000000000000000000) : Pop (pO i) (num i) := ⟨out_O i, nOA, nOL, fun st => by
  obtain ⟨n, rfl⟩ := Int.eq_ofNat_of_zero_le h0
  have e := number_ev n (by omega) st
  have n0 : ¬ Str.ofString "over" = Str.ofString "number" := by decide +kernel
  have n1 : wOver = Str.ofString "over" := rfl
  show f_part_of [.str wOver, .str (num (n : Int))] st = .ok (.int (n : Int)) st
  rw [n1]
  unfold f_part_of b_part_of
  simp [e, n0]⟩
section
variable (W S : U)
def Er (acc : List U) (n : Nat) (s4 s6 : Sl) : D.Env := [.val W, .val S, .own acc, .val (.ref n), s4, .un, s6]
theorem eq_cons (u : U) (us : List U) : eq2 (.lst (u :: us)) (.lst []) = some (.bl false) := by simp
theorem der_lst {st : Store} {n : Nat} {us : List U} (h : st[n]? = some (.lst us)) : der1 st (.ref n) = .lst us := by
  show (match st[n]? with | some (.lst us) => U.lst us | _ => .ref n) = _
  rw [h]
theorem der_nil (st : Store) : der1 st (.lst []) = .lst [] := rfl
set_option maxHeartbeats 1000000 in
theorem step_pop (p : Part) (w : Str) (hp : Pop p w) (ws : List Str) (acc : List U) (ha : acc.length ≤ 1000) (n : Nat) (s6 : Sl) (st : Store) (hst : st[n]? = some (.lst ((w :: ws).map U.str))) :
    t1_row_of (Er W S acc n (.val (.str p.1)) s6) st = .nx (Er W S (acc ++ [p.2.1]) n (.val (.str p.1)) s6) (st.set n (.lst (ws.map U.str))) := by
  obtain ⟨h1, h2, h3, h4⟩ := hp
  have d1 := der_lst hst
  have d2 := der_nil st
  have nr : noRef (.lst ((w :: ws).map U.str)) = true := noRef_lS _
  have nr0 : noRef (.lst []) = true := noRef_lS []
  have eq := eq_cons (.str w) (ws.map U.str)
  have sq : seqIndex? 0 ((ws.map U.str).length + 1) = some 0 := by
    unfold seqIndex?
    rw [if_pos (by simp)]
    simp
  have h4' := h4 (st.set n (.lst (ws.map U.str)))
  have al : acc.length < 16777216 := by omega
  have n1 : (p.1 = Str.ofString "args") = False := eq_false h2
  have n2 : (p.1 = Str.ofString "leaves") = False := eq_false h3
  have p63 : (-(2 : Int) ^ 63) ≤ 0 ∧ (0 : Int) < 2 ^ 63 := by decide
  rw [List.map_cons] at hst d1 nr
  unfold t1_row_of Er
  generalize ws.map U.str = WS at *
  simp [n1, n2, hst, d1, d2, nr, nr0, eq, flat1, flatU, sq, h4', al, p63]
end
end T_allcallers_k13_ends_and_bounds
namespace T_allcallers_k13_ends_and_bounds
open PySem L2 D C TX TL
section
variable (W S : U)
theorem set_same {st : Store} {n : Nat} {o : Ob} (h : st[n]? = some o) : st.set n o = st := by
  obtain ⟨hn, e⟩ := List.getElem?_eq_some_iff.mp h
  rw [← e, List.set_getElem_self]
theorem loop_pops (tail : List U) : ∀ (ps : List (Part × Str)) (more : List Str) (acc : List U) (n : Nat) (s4 s6 : Sl) (st : Store), (∀ p ∈ ps, Pop p.1 p.2) → acc.length + ps.length ≤ 1000 → st[n]? = some (.lst ((ps.map (·.2) ++ more).map U.str)) →
    ∃ s4', forL (tgN 4) t1_row_of ((ps.map fun p => U.str p.1.1) ++ tail) (Er W S acc n s4 s6) st = forL (tgN 4) t1_row_of tail (Er W S (acc ++ ps.map fun p => p.1.2.1) n s4' s6) (st.set n (.lst (more.map U.str)))
  | [], more, acc, n, s4, s6, st, _, _, hst => ⟨s4, by
    have hst : st[n]? = some (.lst (more.map U.str)) := hst
    rw [set_same hst]
    simp⟩
  | p :: ps, more, acc, n, s4, s6, st, hp, ha, hst => by
    have hst : st[n]? = some (.lst ((p.2 :: (ps.map (·.2) ++ more)).map U.str)) := hst
    have e := step_pop W S p.1 p.2 (hp p (List.mem_cons_self ..)) (ps.map (·.2) ++ more) acc (by omega) n s6 st hst
    have hn : n < st.length := (List.getElem?_eq_some_iff.mp hst).1
    obtain ⟨s4', e2⟩ := loop_pops tail ps more (acc ++ [p.1.2.1]) n (.val (.str p.1.1)) s6 (st.set n (.lst ((ps.map (·.2) ++ more).map U.str))) (fun q hq => hp q (List.mem_cons_of_mem _ hq)) (by simp at ha ⊢; omega) (List.getElem?_set_self hn)
    refine ⟨s4', ?_⟩
    rw [List.map_cons, List.cons_append, for_cons]
    show (match t1_row_of (Er W S acc n (.val (.str p.1.1)) s6) st with | .nx env2 st2 => _ | .ct env2 st2 => _ | .bk env2 st2 => _ | .rt u st2 => _ | .ex c us env2 st2 => _ | .bad => _) = _
    rw [e]
    simp only
    rw [e2, List.set_set]
    simp
theorem for_one {u : U} {tail : List U} {acc : List U} {n : Nat} {s4 s6 : Sl} {st : Store} {env' : D.Env} {st' : Store} (h : t1_row_of (Er W S acc n (.val u) s6) st = .nx env' st') : forL (tgN 4) t1_row_of (u :: tail) (Er W S acc n s4 s6) st = forL (tgN 4) t1_row_of tail env' st' := by
  rw [for_cons]
  show (match t1_row_of (Er W S acc n (.val u) s6) st with | .nx env2 st2 => _ | .ct env2 st2 => _ | .bk env2 st2 => _ | .rt u st2 => _ | .ex c us env2 st2 => _ | .bad => _) = _
  rw [h]
theorem step_argsP (l : Str) (hl : ix2 S (.int (-1)) = some (.str l)) (hn : l ≠ wLeaves) (ws : List Str) (acc : List U) (ha : acc.length ≤ 1000) (n : Nat) (s6 : Sl) (st : Store) (hst : st[n]? = some (.lst (ws.map U.str))) :
    t1_row_of (Er W S acc n (.val (.str wArgs)) s6) st = .nx (Er W S (acc ++ [tS ws]) st.length (.val (.str wArgs)) s6) (st ++ [.lst []]) := by
  have n1 : (l = Str.ofString "leaves") = False := eq_false hn
  have al : acc.length < 16777216 := by omega
  have nl : ¬ Str.ofString "args" = Str.ofString "leaves" := by decide +kernel
  unfold t1_row_of Er
  rw [show wArgs = Str.ofString "args" from rfl, show tS ws = .tup (ws.map U.str) from rfl]
  generalize ws.map U.str = WS at *
  simp [hl, n1, hst, al, nl]
theorem step_argsL (hl : ix2 S (.int (-1)) = some (.str wLeaves)) (as vs : List Str) (h1 : bang ∉ as) (h2 : bang ∉ vs) (hz : as.length + vs.length ≤ 900) (acc : List U) (ha : acc.length ≤ 1000) (n : Nat) (s6 : Sl) (st : Store) (hst : st[n]? = some (.lst ((as ++ bang :: vs).map U.str))) :
    t1_row_of (Er W S acc n (.val (.str wArgs)) s6) st = .nx (Er W S (acc ++ [tS as, tS vs]) st.length (.val (.str wArgs)) (.val (.tup [tS as, tS vs]))) (st ++ [.lst []]) := by
  have pa : f_parted [.lst ((as ++ bang :: vs).map U.str)] [] = .ok (.tup [tS as, tS vs]) [] := parted_ev as vs h1 h2 hz []
  have d1 := der_lst hst
  have nr : noRefs [.lst ((as ++ bang :: vs).map U.str)] = true := by
    unfold noRefs
    rw [noRef_lS]
    unfold noRefs
    rfl
  have tu := tupU_2 as vs
  have al : acc.length + 2 ≤ 16777216 := by omega
  have al' : acc.length ≤ 16777214 := by omega
  unfold t1_row_of Er
  rw [show wArgs = Str.ofString "args" from rfl]
  rw [show wLeaves = Str.ofString "leaves" from rfl] at hl
  generalize (as ++ bang :: vs).map U.str = WS at *
  generalize tS as = TA at *
  generalize tS vs = TV at *
  simp [hl, hst, d1, nr, pa, tu, al, al', is2]
theorem step_leaves (acc : List U) (n : Nat) (s6 : Sl) (st : Store) : t1_row_of (Er W S acc n (.val (.str wLeaves)) s6) st = .nx (Er W S acc n (.val (.str wLeaves)) s6) st := by
  have nl : ¬ Str.ofString "leaves" = Str.ofString "args" := by decide +kernel
  unfold t1_row_of Er
  rw [show wLeaves = Str.ofString "leaves" from rfl]
  simp [nl]
end
/-- what a row's words are read to, part by part -/
structure Rd (r : Row) : Prop where
  go : ∀ (W : U) (st : Store), ∃ n' s4' s6' more, forL (tgN 4) t1_row_of ((pt r).map fun p => U.str p.1) (Er W (.tup ((pt r).map fun p => U.str p.1)) [] st.length .un .un) (st ++ [.lst (((pt r).flatMap outW).map U.str)]) = .nx (Er W (.tup ((pt r).map fun p => U.str p.1)) ((pt r).map fun p => p.2.1) n' s4' s6') (st ++ more) ∧ (st ++ more)[n']? = some (.lst [])
theorem new_get (st : Store) (o : Ob) : (st ++ [o])[st.length]? = some o := by simp
theorem new_set (st : Store) (o o' : Ob) : (st ++ [o]).set st.length o' = st ++ [o'] := by simp
theorem rd_pops {r : Row} (ps : List (Part × Str)) (h : pt r = ps.map (·.1)) (hp : ∀ p ∈ ps, Pop p.1 p.2) (hl : ps.length ≤ 100) : Rd r := ⟨fun W st => by
  have e1 : (pt r).flatMap outW = ps.map (·.2) := by
    rw [h]
    clear h hl
    induction ps with
    | nil => rfl
    | cons p ps ih =>
      rw [List.map_cons, List.flatMap_cons, (hp p (List.mem_cons_self ..)).1, ih fun q hq => hp q (List.mem_cons_of_mem _ hq)]
      rfl
  obtain ⟨s4', e⟩ := loop_pops W (.tup ((pt r).map fun p => U.str p.1)) [] ps [] [] st.length .un .un (st ++ [.lst (((pt r).flatMap outW).map U.str)]) hp (by simp; omega) (by rw [new_get, e1, List.append_nil])
  refine ⟨st.length, s4', .un, [.lst []], ?_, new_get _ _⟩
  rw [new_set, List.append_nil] at e
  have e2 : (ps.map fun p => U.str p.1.1) = (pt r).map fun p => U.str p.1 := by rw [h, List.map_map]; rfl
  have e3 : (ps.map fun p => p.1.2.1) = (pt r).map fun p => p.2.1 := by rw [h, List.map_map]; rfl
  rw [e2, e3, List.nil_append] at e
  exact e⟩
theorem rd_hold (x nm : Str) (as : List Str) : Rd (.hold x nm as) := ⟨fun W st => by
  have fl : (pt (.hold x nm as)).flatMap outW = [x, nm] ++ as := by
    show outW (pW x) ++ (outW (pW nm) ++ (outW (pA as) ++ [])) = _
    rw [out_W, out_W, out_A, List.append_nil]; rfl
  obtain ⟨s4', e⟩ := loop_pops W (.tup ((pt (.hold x nm as)).map fun p => U.str p.1)) [.str wArgs] [(pW x, x), (pW nm, nm)] as [] st.length .un .un (st ++ [.lst (((pt (.hold x nm as)).flatMap outW).map U.str)]) (fun p hp => by
    have : p = (pW x, x) ∨ p = (pW nm, nm) := by simpa using hp
    rcases this with rfl | rfl
    · exact pop_W x
    · exact pop_W nm) (by simp) (by rw [new_get, fl]; rfl)
  rw [new_set] at e
  have s := step_argsP W (.tup ((pt (.hold x nm as)).map fun p => U.str p.1)) wArgs rfl nAL as [(pW x).2.1, (pW nm).2.1] (by simp) st.length .un (st ++ [.lst (as.map U.str)]) (new_get _ _)
  refine ⟨(st ++ [Ob.lst (as.map U.str)]).length, .val (.str wArgs), .un, [.lst (as.map U.str), .lst []], ?_, ?_⟩
  · have f1 := for_one W (.tup ((pt (.hold x nm as)).map fun p => U.str p.1)) (tail := []) (s4 := s4') s
    have ee := e.trans f1
    rw [for_nil, List.append_assoc] at ee
    exact ee
  · rw [show st ++ [Ob.lst (as.map U.str), .lst []] = (st ++ [Ob.lst (as.map U.str)]) ++ [.lst []] by rw [List.append_assoc]; rfl]
    exact new_get _ _⟩
theorem atI_last {A : Type} (l : List A) (x : A) : atI (l ++ [x]) (-1) = some x := by
  unfold atI ixN
  rw [if_neg (by decide), if_pos (by simp; omega)]
  have e : ((-1 : Int) + ((l ++ [x]).length : Nat)).toNat = l.length := by simp; omega
  show (l ++ [x])[((-1 : Int) + ((l ++ [x]).length : Nat)).toNat]? = some x
  rw [e]
  simp
theorem rd_call (r : Row) (ps : List (Part × Str)) (as vs : List Str) (h : pt r = ps.map (·.1) ++ [pA as, pL vs]) (hp : ∀ p ∈ ps, Pop p.1 p.2) (hl : ps.length ≤ 100) (h1 : bang ∉ as) (h2 : bang ∉ vs) (hz : as.length + vs.length ≤ 900) : Rd r := ⟨fun W st => by
  have fl : (pt r).flatMap outW = ps.map (·.2) ++ (as ++ bang :: vs) := by
    have e1 : (ps.map (·.1)).flatMap outW = ps.map (·.2) := by
      clear h hl
      induction ps with
      | nil => rfl
      | cons p ps ih =>
        rw [List.map_cons, List.flatMap_cons, (hp p (List.mem_cons_self ..)).1, ih fun q hq => hp q (List.mem_cons_of_mem _ hq)]
        rfl
    rw [h, List.flatMap_append, e1]
    show _ ++ (outW (pA as) ++ (outW (pL vs) ++ [])) = _
    rw [out_A, out_L, List.append_nil]
  obtain ⟨S, hS⟩ : ∃ S : U, S = .tup ((pt r).map fun p => U.str p.1) := ⟨_, rfl⟩
  have hlast : ix2 S (.int (-1)) = some (.str wLeaves) := by
    rw [hS, h, List.map_append]
    show atI ((ps.map (·.1)).map (fun p => U.str p.1) ++ ([.str wArgs] ++ [.str wLeaves])) (-1) = _
    rw [← List.append_assoc]
    exact atI_last _ _
  rw [← hS]
  have hm : ((pt r).map fun p => U.str p.1) = (ps.map fun p => U.str p.1.1) ++ [.str wArgs, .str wLeaves] := by rw [h, List.map_append, List.map_map]; rfl
  have hv : ((pt r).map fun p => p.2.1) = (ps.map fun p => p.1.2.1) ++ [tS as, tS vs] := by rw [h, List.map_append, List.map_map]; rfl
  obtain ⟨s4', e⟩ := loop_pops W S [.str wArgs, .str wLeaves] ps (as ++ bang :: vs) [] st.length .un .un (st ++ [.lst (((pt r).flatMap outW).map U.str)]) hp (by simp; omega) (by rw [new_get, fl])
  rw [new_set, List.nil_append] at e
  have s := step_argsL W S hlast as vs h1 h2 hz (ps.map fun p => p.1.2.1) (by simp; omega) st.length .un (st ++ [.lst ((as ++ bang :: vs).map U.str)]) (new_get _ _)
  have s2 := step_leaves W S ((ps.map fun p => p.1.2.1) ++ [tS as, tS vs]) (st ++ [Ob.lst ((as ++ bang :: vs).map U.str)]).length (.val (.tup [tS as, tS vs])) ((st ++ [Ob.lst ((as ++ bang :: vs).map U.str)]) ++ [.lst []])
  have f1 := for_one W S (tail := [.str wLeaves]) (s4 := s4') s
  have f2 := for_one W S (tail := []) (s4 := .val (.str wArgs)) s2
  refine ⟨(st ++ [Ob.lst ((as ++ bang :: vs).map U.str)]).length, .val (.str wLeaves), .val (.tup [tS as, tS vs]), [.lst ((as ++ bang :: vs).map U.str), .lst []], ?_, ?_⟩
  · rw [hm, hv]
    have ee := e.trans (f1.trans f2)
    rw [for_nil, List.append_assoc] at ee
    exact ee
  · rw [show st ++ [Ob.lst ((as ++ bang :: vs).map U.str), .lst []] = (st ++ [Ob.lst ((as ++ bang :: vs).map U.str)]) ++ [.lst []] by rw [List.append_assoc]; rfl]
    exact new_get _ _⟩
theorem one3 {a b c : Part × Str} (ha : Pop a.1 a.2) (hb : Pop b.1 b.2) (hc : Pop c.1 c.2) : ∀ p ∈ [a, b, c], Pop p.1 p.2 := fun p hp => by
  have : p = a ∨ p = b ∨ p = c := by simpa using hp
  rcases this with rfl | rfl | rfl <;> assumption
theorem one2 {a b : Part × Str} (ha : Pop a.1 a.2) (hb : Pop b.1 b.2) : ∀ p ∈ [a, b], Pop p.1 p.2 := fun p hp => by
  have : p = a ∨ p = b := by simpa using hp
  rcases this with rfl | rfl <;> assumption
theorem one1 {a : Part × Str} (ha : Pop a.1 a.2) : ∀ p ∈ [a], Pop p.1 p.2 := fun p hp => by
  have : p = a := by simpa using hp
  rw [this]; exact ha
theorem rd_of {r : Row} (h : Fit r) : Rd r := by
  obtain ⟨h1, h2⟩ := h
  cases r with
  | set x n =>
    simp only [Row.ok, Bool.and_eq_true] at h1
    exact rd_pops [(pW x, x), (pN n, num n)] rfl (one2 (pop_W _) (pop_N (okN_le h1.2))) (by simp)
  | same x a => exact rd_pops [(pW x, x), (pW a, a)] rfl (one2 (pop_W _) (pop_W _)) (by simp)
  | sum x a b => exact rd_pops [(pW x, x), (pW a, a), (pW b, b)] rfl (one3 (pop_W _) (pop_W _) (pop_W _)) (by simp)
  | less x a b => exact rd_pops [(pW x, x), (pW a, a), (pW b, b)] rfl (one3 (pop_W _) (pop_W _) (pop_W _)) (by simp)
  | hold x n as => exact rd_hold x n as
  | call x f as vs =>
    simp only [Row.ok, Bool.and_eq_true] at h1
    exact rd_call _ [(pW x, x), (pW f, f)] as vs rfl (one2 (pop_W _) (pop_W _)) (by simp) (words_bang (args_words h1.1.2)) (words_bang (leaves_words h1.2)) (by have := args_len h1.1.2; have := leaves_len h1.2; omega)
  | last f as vs =>
    simp only [Row.ok, Bool.and_eq_true] at h1
    exact rd_call _ [(pW f, f)] as vs rfl (one1 (pop_W _)) (by simp) (words_bang (args_words h1.1.2)) (words_bang (leaves_words h1.2)) (by have := args_len h1.1.2; have := leaves_len h1.2; omega)
  | give a => exact rd_pops [(pW a, a)] rfl (one1 (pop_W _)) (by simp)
  | keep c a => exact rd_pops [(pW c, c), (pW a, a)] rfl (one2 (pop_W _) (pop_W _)) (by simp)
  | kept x c => exact rd_pops [(pW x, x), (pW c, c)] rfl (one2 (pop_W _) (pop_W _)) (by simp)
  | skip a k =>
    simp only [Row.ok, Bool.and_eq_true, decide_eq_true_eq] at h1
    have h2 : k ≤ 60 := h2
    exact rd_pops [(pW a, a), (pO k, num k)] rfl (one2 (pop_W _) (pop_O (by omega) (by omega))) (by simp)
  | over k =>
    simp only [Row.ok, decide_eq_true_eq] at h1
    have h2 : k ≤ 60 := h2
    exact rd_pops [(pO k, num k)] rfl (one1 (pop_O (by omega) (by omega))) (by simp)
  | on => exact rd_pops [] rfl (fun p hp => nomatch hp) (by simp)
  | count => exact rd_pops [] rfl (fun p hp => nomatch hp) (by simp)
  | ask w k =>
    simp only [Row.ok, Bool.and_eq_true, decide_eq_true_eq] at h1
    have h2 : k ≤ 60 := h2
    exact rd_pops [(pW w, w), (pO k, num k)] rfl (one2 (pop_W _) (pop_O (by omega) (by omega))) (by simp)
  | deed w a => exact rd_pops [(pW w, w), (pW a, a)] rfl (one2 (pop_W _) (pop_W _)) (by simp)
  | done w a => exact rd_pops [(pW w, w), (pW a, a)] rfl (one2 (pop_W _) (pop_W _)) (by simp)
theorem tab_pt (r : Row) : tabGet0 tab_PARTS (.str (kw r)) = some (.tup ((pt r).map fun p => U.str p.1)) := by cases r <;> rfl
set_option maxHeartbeats 1000000 in
theorem row_of_gen {r : Row} (h : Rd r) (hok : r.ok = true) (st : Store) : ∃ more, f_row_of [lS (wd r)] st = .ok r.u (st ++ more) := by
  obtain ⟨n', s4', s6', more, e, hn⟩ := h.go (lS (wd r)) st
  refine ⟨more, ?_⟩
  have tp := tab_pt r
  have wp := wd_pt r
  have i0 : ix2 (lS (wd r)) (.int 0) = some (.str (kw r)) := by
    show atI ((wd r).map U.str) 0 = _
    rw [wp]; exact atI_cast _ 0
  have c3 : cut3 (lS (wd r)) (some 1) none = some (((pt r).flatMap outW).map U.str) := by
    show cut3 (.lst ((wd r).map U.str)) (some 1) none = _
    rw [cut3_lst, wp, List.map_cons, cut_tail]
  have isn : is2 (.tup ((pt r).map fun p => U.str p.1)) .non = some (.bl false) := rfl
  have it : items (.tup ((pt r).map fun p => U.str p.1)) = some ((pt r).map fun p => U.str p.1) := rfl
  have lz : ((pt r).map fun p => U.str p.1).length ≤ 16777216 := by rw [List.length_map]; have := pt_len r; omega
  have ru := row_pt r
  have ad : add2 (.tup [.str (kw r)]) (.tup ((pt r).map fun p => p.2.1)) = some r.u := by
    rw [add_tups, if_pos (by simp; have := pt_len r; omega), ru]; rfl
  have ir := is_row_ev (row_tame hok) (st ++ more)
  rw [row_back, hok, ← is_row_eq] at ir
  have d1 := der_lst hn
  have d2 := der_nil (st ++ more)
  have nr0 : noRef (.lst []) = true := noRef_lS []
  have en : ne2 (.lst []) (.lst []) = some (.bl false) := by simp
  have tu : ∀ us, tupN [.lst us] = some (.tup us) := fun us => rfl
  unfold Er at e
  unfold f_row_of b_row_of
  generalize lS (wd r) = LW at *
  generalize U.tup ((pt r).map fun p => U.str p.1) = SS at *
  generalize ((pt r).map fun p => U.str p.1) = SL at *
  generalize ((pt r).flatMap outW).map U.str = RW at *
  generalize ((pt r).map fun p => p.2.1) = VS at *
  generalize r.u = RU at *
  simp [i0, tp, isn, slL, c3, it, e, frzE, frz1, ad, d1, d2, nr0, en, flat1, flatU, ir, hn, -add_tups]
theorem row_of_ev {r : Row} (h : Fit r) (st : Store) : ∃ more, f_row_of [lS (wd r)] st = .ok r.u (st ++ more) := row_of_gen (rd_of h) h.ok st
end T_allcallers_k13_ends_and_bounds
namespace T_allcallers_k13_ends_and_bounds
open PySem L2 D C TX TL
variable {S0 : Store}
abbrev sR : Str := Str.ofString "Reader"
def FSr (f : Nat) (bg : U) (l k : Nat) : List (Str × U) := [(Str.ofString "most", .int 12), (Str.ofString "found", .ref f), (Str.ofString "begun", bg), (Str.ofString "lines", .ref l), (Str.ofString "known", .ref k)]
def kOb (ks : List Str) : Ob := .dct (ks.map U.str) (ks.map fun _ => .bl true)
def Pre (S0 st : Store) : Prop := ∀ (i : Nat) (o : Ob), S0[i]? = some o → st[i]? = some o
theorem Pre.set {st : Store} (h : Pre S0 st) {k : Nat} (hk : S0.length ≤ k) (x : Ob) : Pre S0 (st.set k x) := fun i o e => by
  have : i < S0.length := (List.getElem?_eq_some_iff.mp e).1
  rw [List.getElem?_set_ne (by omega)]; exact h i o e
theorem Pre.app {st : Store} (h : Pre S0 st) (l : Store) : Pre S0 (st ++ l) := fun i o e => by
  have e1 := h i o e
  rw [List.getElem?_append_left (List.getElem?_eq_some_iff.mp e1).1]; exact e1
structure RS (S0 st : Store) (m f l k : Nat) (found : List Piece) (bg : U) (lines : List Row) (known : List Str) : Prop where
  ob : st[m]? = some (.obj sR (FSr f bg l k))
  fo : st[f]? = some (.lst (found.map Piece.u))
  li : st[l]? = some (.lst (lines.map Row.u))
  kn : st[k]? = some (kOb known)
  ne : f ≠ l
  pre : Pre S0 st
  lo : S0.length ≤ m ∧ S0.length ≤ f ∧ S0.length ≤ l ∧ S0.length ≤ k
section
variable (f : Nat) (bg : U) (l k : Nat)
theorem lk_most : (FSr f bg l k).lookup (Str.ofString "most") = some (.int 12) := by
  unfold FSr
  rw [List.lookup_cons, show (Str.ofString "most" == Str.ofString "most") = true by decide +kernel]
theorem lk_found : (FSr f bg l k).lookup (Str.ofString "found") = some (.ref f) := by
  unfold FSr
  rw [List.lookup_cons, show (Str.ofString "found" == Str.ofString "most") = false by decide +kernel]
  simp only
  rw [List.lookup_cons, show (Str.ofString "found" == Str.ofString "found") = true by decide +kernel]
theorem lk_begun : (FSr f bg l k).lookup (Str.ofString "begun") = some bg := by
  unfold FSr
  rw [List.lookup_cons, show (Str.ofString "begun" == Str.ofString "most") = false by decide +kernel]
  simp only
  rw [List.lookup_cons, show (Str.ofString "begun" == Str.ofString "found") = false by decide +kernel]
  simp only
  rw [List.lookup_cons, show (Str.ofString "begun" == Str.ofString "begun") = true by decide +kernel]
theorem lk_lines : (FSr f bg l k).lookup (Str.ofString "lines") = some (.ref l) := by
  unfold FSr
  rw [List.lookup_cons, show (Str.ofString "lines" == Str.ofString "most") = false by decide +kernel]
  simp only
  rw [List.lookup_cons, show (Str.ofString "lines" == Str.ofString "found") = false by decide +kernel]
  simp only
  rw [List.lookup_cons, show (Str.ofString "lines" == Str.ofString "begun") = false by decide +kernel]
  simp only
  rw [List.lookup_cons, show (Str.ofString "lines" == Str.ofString "lines") = true by decide +kernel]
theorem lk_known : (FSr f bg l k).lookup (Str.ofString "known") = some (.ref k) := by
  unfold FSr
  rw [List.lookup_cons, show (Str.ofString "known" == Str.ofString "most") = false by decide +kernel]
  simp only
  rw [List.lookup_cons, show (Str.ofString "known" == Str.ofString "found") = false by decide +kernel]
  simp only
  rw [List.lookup_cons, show (Str.ofString "known" == Str.ofString "begun") = false by decide +kernel]
  simp only
  rw [List.lookup_cons, show (Str.ofString "known" == Str.ofString "lines") = false by decide +kernel]
  simp only
  rw [List.lookup_cons, show (Str.ofString "known" == Str.ofString "known") = true by decide +kernel]
theorem lk_none (x : Str) (h1 : (x == Str.ofString "most") = false) (h2 : (x == Str.ofString "found") = false) (h3 : (x == Str.ofString "begun") = false) (h4 : (x == Str.ofString "lines") = false) (h5 : (x == Str.ofString "known") = false) : (FSr f bg l k).lookup x = none := by
  unfold FSr
  simp only [List.lookup_cons, h1, h2, h3, h4, h5, List.lookup_nil]
theorem pt_begun (b' : U) : putU (Str.ofString "begun") b' (FSr f bg l k) = FSr f b' l k := by
  unfold FSr putU
  rw [if_neg (by decide +kernel)]
  unfold putU
  rw [if_neg (by decide +kernel)]
  unfold putU
  rw [if_pos rfl]
theorem pt_lines (l' : Nat) : putU (Str.ofString "lines") (.ref l') (FSr f bg l k) = FSr f bg l' k := by
  unfold FSr putU
  rw [if_neg (by decide +kernel)]
  unfold putU
  rw [if_neg (by decide +kernel)]
  unfold putU
  rw [if_neg (by decide +kernel)]
  unfold putU
  rw [if_pos rfl]
theorem fs_len : (FSr f bg l k).length = 5 := rfl
end
def addK (ks : List Str) (w : Str) : List Str := if w ∈ ks then ks else ks ++ [w]
theorem kvs_known (ks : List Str) : kvsOf (ks.map U.str) (ks.map fun _ => U.bl true) = some (ks.map fun w => ((Sum.inr w : Key), U.bl true)) := by
  unfold kvsOf
  rw [if_pos (by simp)]
  have : kOfs (ks.map U.str) = some (ks.map Sum.inr) := by
    have := kOfs_kU (ks.map Sum.inr)
    rw [List.map_map] at this
    exact this
  rw [this, Option.map_some]
  congr 1
  induction ks with
  | nil => rfl
  | cons w ks ih => rw [List.map_cons, List.map_cons, List.zip_cons_cons, List.map_cons, ih (by
      have := kOfs_kU (ks.map Sum.inr)
      rw [List.map_map] at this
      exact this)]
theorem put_known (ks : List Str) (w : Str) : mkOb (putG (ks.map fun w => ((Sum.inr w : Key), U.bl true)) (.inr w) (.bl true)) = kOb (addK ks w) := by
  unfold putG addK
  have hany : ((ks.map fun w => ((Sum.inr w : Key), U.bl true)).any fun kv => decide (kv.1 = .inr w)) = decide (w ∈ ks) := by
    rw [List.any_map, Bool.eq_iff_iff, List.any_eq_true, decide_eq_true_eq]
    constructor
    · rintro ⟨x, hx, e⟩
      have e : (Sum.inr x : Key) = .inr w := of_decide_eq_true e
      cases e; exact hx
    · intro h; exact ⟨w, h, decide_eq_true rfl⟩
  rw [hany]
  by_cases h : w ∈ ks
  · rw [if_pos (decide_eq_true h), if_pos h]
    unfold mkOb kOb
    congr 1
    · rw [List.map_map, List.map_map]
      refine List.map_congr_left fun x _ => ?_
      show kU (if (Sum.inr x : Key) = .inr w then (Sum.inr x, U.bl true) else (Sum.inr x, U.bl true)).1 = U.str x
      split <;> rfl
    · rw [List.map_map, List.map_map]
      refine List.map_congr_left fun x _ => ?_
      show (if (Sum.inr x : Key) = .inr w then ((Sum.inr x : Key), U.bl true) else (Sum.inr x, U.bl true)).2 = U.bl true
      split <;> rfl
  · rw [if_neg (by simp [h]), if_neg h]
    unfold mkOb kOb
    simp
    exact ⟨fun _ _ => rfl, rfl⟩
theorem addK_ok {R ks : List Str} (w : Str) (hn : ks.Nodup) (hs : ∀ x ∈ ks, x ∈ R) (hw : w ∈ R) : (addK ks w).Nodup ∧ ∀ x ∈ addK ks w, x ∈ R := by
  unfold addK
  split
  · exact ⟨hn, hs⟩
  · rename_i h
    refine ⟨?_, fun x hx => ?_⟩
    · rw [List.nodup_append]
      exact ⟨hn, by simp, fun a ha b hb e => by
        rw [List.mem_singleton] at hb
        subst hb; subst e
        exact h ha⟩
    · rcases List.mem_append.mp hx with z | z
      · exact hs x z
      · rw [List.mem_singleton] at z; rw [z]; exact hw
theorem RS.setK {st : Store} {m f l k : Nat} {found : List Piece} {bg : U} {lines : List Row} {known : List Str} (h : RS S0 st m f l k found bg lines known) (ks : List Str) : RS S0 (st.set k (kOb ks)) m f l k found bg lines ks := by
  have hk : k < st.length := (List.getElem?_eq_some_iff.mp h.kn).1
  have n1 : k ≠ m := fun e => by have := h.kn; rw [e, h.ob] at this; cases this
  have n2 : k ≠ f := fun e => by have := h.kn; rw [e, h.fo] at this; cases this
  have n3 : k ≠ l := fun e => by have := h.kn; rw [e, h.li] at this; cases this
  exact ⟨by rw [List.getElem?_set_ne n1]; exact h.ob, by rw [List.getElem?_set_ne n2]; exact h.fo, by rw [List.getElem?_set_ne n3]; exact h.li, List.getElem?_set_self hk, h.ne, h.pre.set h.lo.2.2.2 _, h.lo⟩
end T_allcallers_k13_ends_and_bounds
namespace TX
open PySem L2 D C
theorem noRefs_all : ∀ us : List U, (∀ u ∈ us, noRef u = true) → noRefs us = true
  | [], _ => by unfold noRefs; rfl
  | u :: us, h => by
    unfold noRefs
    rw [h u (List.mem_cons_self ..), noRefs_all us fun v hv => h v (List.mem_cons_of_mem _ hv)]
    rfl
theorem noRef_txt (ws : List Str) : noRef (tS ws) = true := by
  unfold noRef
  exact noRefs_all _ fun u hu => by
    obtain ⟨w, _, rfl⟩ := List.mem_map.mp hu
    unfold noRef; rfl
theorem noRef_str (w : Str) : noRef (.str w) = true := by unfold noRef; rfl
theorem noRef_int (w : Int) : noRef (.int w) = true := by unfold noRef; rfl
theorem noRef_tup {us : List U} (h : ∀ u ∈ us, noRef u = true) : noRef (.tup us) = true := by unfold noRef; exact noRefs_all us h
theorem noRef_row (r : Row) : noRef r.u = true := by
  have W : ∀ a, noRef (pW a).2.1 = true := fun a => noRef_str a
  have N : ∀ a, noRef (pN a).2.1 = true := fun a => noRef_int a
  have O : ∀ a, noRef (pO a).2.1 = true := fun a => noRef_int a
  have A : ∀ a, noRef (pA a).2.1 = true := fun a => noRef_txt a
  have L : ∀ a, noRef (pL a).2.1 = true := fun a => noRef_txt a
  have key : ∀ p ∈ pt r, noRef p.2.1 = true := by
    cases r with
    | set x n => exact mem2 (P := fun p => noRef p.2.1 = true) (W _) (N _)
    | same x n => exact mem2 (P := fun p => noRef p.2.1 = true) (W _) (W _)
    | sum x a b => exact memC (P := fun p => noRef p.2.1 = true) (W _) (mem2 (W _) (W _))
    | less x a b => exact memC (P := fun p => noRef p.2.1 = true) (W _) (mem2 (W _) (W _))
    | hold x n as => exact memC (P := fun p => noRef p.2.1 = true) (W _) (mem2 (W _) (A _))
    | call x f as vs => exact memC (P := fun p => noRef p.2.1 = true) (W _) (memC (W _) (mem2 (A _) (L _)))
    | last f as vs => exact memC (P := fun p => noRef p.2.1 = true) (W _) (mem2 (A _) (L _))
    | give a => exact mem1 (P := fun p => noRef p.2.1 = true) (W _)
    | keep x n => exact mem2 (P := fun p => noRef p.2.1 = true) (W _) (W _)
    | kept x n => exact mem2 (P := fun p => noRef p.2.1 = true) (W _) (W _)
    | skip x n => exact mem2 (P := fun p => noRef p.2.1 = true) (W _) (O _)
    | over n => exact mem1 (P := fun p => noRef p.2.1 = true) (O _)
    | on => exact fun p hp => nomatch hp
    | count => exact fun p hp => nomatch hp
    | ask x n => exact mem2 (P := fun p => noRef p.2.1 = true) (W _) (O _)
    | deed x n => exact mem2 (P := fun p => noRef p.2.1 = true) (W _) (W _)
    | done x n => exact mem2 (P := fun p => noRef p.2.1 = true) (W _) (W _)
  rw [row_pt]
  refine noRef_tup fun u hu => ?_
  rcases List.mem_cons.mp hu with rfl | hu
  · exact noRef_str _
  · obtain ⟨p, hp, rfl⟩ := List.mem_map.mp hu
    exact key p hp
theorem noRef_piece (p : Piece) : noRef p.u = true := by
  refine noRef_tup fun u hu => ?_
  simp only [List.mem_cons, List.not_mem_nil, or_false] at hu
  rcases hu with rfl | rfl | rfl | rfl
  · exact noRef_str _
  · exact noRef_txt _
  · exact noRef_txt _
  · exact noRef_tup fun u hu => by
      obtain ⟨r, _, rfl⟩ := List.mem_map.mp hu
      exact noRef_row r
theorem noRefs_book (b : List Piece) : noRefs (b.map Piece.u) = true := noRefs_all _ fun u hu => by
  obtain ⟨p, _, rfl⟩ := List.mem_map.mp hu
  exact noRef_piece p
end TX
namespace T_allcallers_k13_ends_and_bounds
open PySem L2 D C TX TL
variable {S0 : Store}
def hdU (p : Piece) : U := .tup [.str p.name, tS p.own, tS p.params]
theorem noRefs_rows (rs : List Row) : noRefs (rs.map Row.u) = true := noRefs_all _ fun u hu => by
  obtain ⟨r, _, rfl⟩ := List.mem_map.mp hu
  exact noRef_row r
theorem bad_none {p : Piece} (h : p.ok = true) : f_bad_row [.lst (p.rows.map Row.u)] [] = .ok .non [] := by
  have hP := (pok_iff p).mp h
  rw [bad_row_eq, bad_row_gen (p.rows.map Row.u) (.lst (p.rows.map Row.u)) (.inr rfl) (by
    rw [List.all_eq_true]
    intro u hu
    obtain ⟨r, hr, rfl⟩ := List.mem_map.mp hu
    exact row_tame (hP.rows r hr))]
  have e : Piece.ok p = (headU p.u && (badAt (p.rows.map Row.u)).isNone) := rfl
  rw [e, Bool.and_eq_true] at h
  cases q : badAt (p.rows.map Row.u) with
  | none => rfl
  | some n => rw [q] at h; exact absurd h.2 (by simp)
theorem end_none {m f l k : Nat} {found : List Piece} {lines : List Row} {known : List Str} {st : Store} (h : RS S0 st m f l k found .non lines known) (a : U) : f_Reader__end [.ref m, a] st = .ok .non st := by
  have o := h.ob
  have lb := lk_begun f .non l k
  have nn : isnot2 .non .non = some (.bl false) := rfl
  unfold f_Reader__end b_Reader__end
  generalize FSr f .non l k = FS at *
  simp [o, lb, nn, fin]
set_option maxHeartbeats 2000000 in
theorem end_piece {m f l k : Nat} {found : List Piece} {p : Piece} {known : List Str} {st : Store} (hp : p.ok = true) (hl : found.length ≤ 1000) (h : RS S0 st m f l k found (hdU p) p.rows known) (a : U) : ∃ l' st', f_Reader__end [.ref m, a] st = .ok .non st' ∧ RS S0 st' m f l' k (found ++ [p]) (hdU p) [] known := by
  have hP := (pok_iff p).mp hp
  have o := h.ob
  have fo := h.fo
  have li := h.li
  have lb := lk_begun f (hdU p) l k
  have ll := lk_lines f (hdU p) l k
  have lf := lk_found f (hdU p) l k
  have nn : isnot2 (hdU p) .non = some (.bl true) := rfl
  have d1 := der_lst li
  have d2 := der_nil st
  have nr : noRef (.lst (p.rows.map Row.u)) = true := by unfold noRef; exact noRefs_rows _
  have nr0 : noRef (.lst []) = true := noRef_lS []
  have nrs : noRefs [.lst (p.rows.map Row.u)] = true := by unfold noRefs; rw [nr]; unfold noRefs; rfl
  have br := bad_none hp
  have tn : tupU .non = true := by unfold tupU; rfl
  have nn0 : isnot2 .non .non = some (.bl false) := rfl
  have eq : eq2 (.lst (p.rows.map Row.u)) (.lst []) = some (.bl false) := by
    cases q : p.rows with
    | nil => have := hP.len1; rw [q] at this; simp at this
    | cons r rs => rw [List.map_cons]; exact eq_cons _ _
  have rne : ¬ p.rows.map Row.u = [] := fun q => by have := hP.len1; rw [List.map_eq_nil_iff] at q; rw [q] at this; simp at this
  have ad : add2 (hdU p) (.tup [.tup (p.rows.map Row.u)]) = some p.u := by
    unfold hdU
    rw [add_tups, if_pos (by simp)]; rfl
  have fl : found.length < 16777216 := by omega
  obtain ⟨st1, hst1⟩ : ∃ s : Store, s = st.set f (.lst (found.map Piece.u ++ [p.u])) := ⟨_, rfl⟩
  have hf : f < st.length := (List.getElem?_eq_some_iff.mp fo).1
  have n1 : f ≠ m := fun e => by rw [e, o] at fo; cases fo
  have n2 : f ≠ k := fun e => by have := h.kn; rw [← e, fo] at this; cases this
  have o1 : st1[m]? = some (.obj sR (FSr f (hdU p) l k)) := by rw [hst1, List.getElem?_set_ne n1]; exact o
  have f1 : st1[f]? = some (.lst (found.map Piece.u ++ [p.u])) := by rw [hst1]; exact List.getElem?_set_self hf
  have k1 : st1[k]? = some (kOb known) := by rw [hst1, List.getElem?_set_ne n2]; exact h.kn
  have hm1 : m < st1.length := (List.getElem?_eq_some_iff.mp o1).1
  have hf1 : f < st1.length := (List.getElem?_eq_some_iff.mp f1).1
  have hk1 : k < st1.length := (List.getElem?_eq_some_iff.mp k1).1
  have o2 : (st1 ++ [Ob.lst []])[m]? = some (.obj sR (FSr f (hdU p) l k)) := by rw [List.getElem?_append_left hm1]; exact o1
  have pl := pt_lines f (hdU p) l k st1.length
  have l5 := fs_len f (hdU p) l k
  refine ⟨st1.length, (st1 ++ [Ob.lst []]).set m (.obj sR (FSr f (hdU p) st1.length k)), ?_, ?_⟩
  · have hst1' := hst1.symm
    unfold f_Reader__end b_Reader__end
    generalize FSr f (hdU p) st1.length k = FS2 at *
    generalize FSr f (hdU p) l k = FS at *
    generalize hdU p = HU at *
    generalize p.rows.map Row.u = RU at *
    generalize p.u = PU at *
    simp [o, lb, ll, lf, nn, d1, d2, nr, nr0, nrs, eq, rne, flat1, flatU, br, tn, nn0, fo, fl, ad, li, hst1', o2, pl, l5, fin, -add_tups]
  · have n3 : m ≠ f := Ne.symm n1
    have n4 : m ≠ k := fun e => by have := h.kn; rw [← e, o] at this; cases this
    have n5 : m ≠ st1.length := by omega
    have ml : S0.length ≤ st1.length := by have := h.lo.1; omega
    refine ⟨List.getElem?_set_self (by simp; omega), ?_, ?_, ?_, by omega, Pre.set (Pre.app (by rw [hst1]; exact h.pre.set h.lo.2.1 _) _) h.lo.1 _, h.lo.1, h.lo.2.1, ml, h.lo.2.2.2⟩
    · rw [List.getElem?_set_ne n3, List.getElem?_append_left hf1, f1]; simp
    · rw [List.getElem?_set_ne n5]; simp
    · rw [List.getElem?_set_ne n4, List.getElem?_append_left hk1]; exact k1
end T_allcallers_k13_ends_and_bounds
namespace T_allcallers_k13_ends_and_bounds
open PySem L2 D C TX TL
variable {S0 : Store}
theorem m_end (f : Nat) (bg : U) (l k : Nat) : (FSr f bg l k).lookup (Str.ofString "end") = none := lk_none f bg l k _ (by decide +kernel) (by decide +kernel) (by decide +kernel) (by decide +kernel) (by decide +kernel)
theorem m_learn (f : Nat) (bg : U) (l k : Nat) : (FSr f bg l k).lookup (Str.ofString "learn") = none := lk_none f bg l k _ (by decide +kernel) (by decide +kernel) (by decide +kernel) (by decide +kernel) (by decide +kernel)
theorem m_begin (f : Nat) (bg : U) (l k : Nat) : (FSr f bg l k).lookup (Str.ofString "begin") = none := lk_none f bg l k _ (by decide +kernel) (by decide +kernel) (by decide +kernel) (by decide +kernel) (by decide +kernel)
theorem m_take (f : Nat) (bg : U) (l k : Nat) : (FSr f bg l k).lookup (Str.ofString "take") = none := lk_none f bg l k _ (by decide +kernel) (by decide +kernel) (by decide +kernel) (by decide +kernel) (by decide +kernel)
theorem alt1 (g : List U → Store → Rs U) : [(sR, g)].lookup sR = some g := by rw [List.lookup_cons]; simp
theorem RS.setB {st : Store} {m f l k : Nat} {found : List Piece} {bg : U} {lines : List Row} {known : List Str} (h : RS S0 st m f l k found bg lines known) (b' : U) : RS S0 (st.set m (.obj sR (FSr f b' l k))) m f l k found b' lines known := by
  have hm : m < st.length := (List.getElem?_eq_some_iff.mp h.ob).1
  have n1 : m ≠ k := fun e => by have := h.kn; rw [← e, h.ob] at this; cases this
  have n2 : m ≠ f := fun e => by have := h.fo; rw [← e, h.ob] at this; cases this
  have n3 : m ≠ l := fun e => by have := h.li; rw [← e, h.ob] at this; cases this
  exact ⟨List.getElem?_set_self hm, by rw [List.getElem?_set_ne n2]; exact h.fo, by rw [List.getElem?_set_ne n3]; exact h.li, by rw [List.getElem?_set_ne n1]; exact h.kn, h.ne, h.pre.set h.lo.1 _, h.lo⟩
theorem RS.setL {st : Store} {m f l k : Nat} {found : List Piece} {bg : U} {lines : List Row} {known : List Str} (h : RS S0 st m f l k found bg lines known) (rs : List Row) : RS S0 (st.set l (.lst (rs.map Row.u))) m f l k found bg rs known := by
  have hm : l < st.length := (List.getElem?_eq_some_iff.mp h.li).1
  have n1 : l ≠ k := fun e => by have := h.kn; rw [← e, h.li] at this; cases this
  have n2 : l ≠ f := Ne.symm h.ne
  have n3 : l ≠ m := fun e => by have := h.ob; rw [← e, h.li] at this; cases this
  exact ⟨by rw [List.getElem?_set_ne n3]; exact h.ob, by rw [List.getElem?_set_ne n2]; exact h.fo, List.getElem?_set_self hm, by rw [List.getElem?_set_ne n1]; exact h.kn, h.ne, h.pre.set h.lo.2.2.1 _, h.lo⟩
theorem RS.more {st : Store} {m f l k : Nat} {found : List Piece} {bg : U} {lines : List Row} {known : List Str} (h : RS S0 st m f l k found bg lines known) (more : Store) : RS S0 (st ++ more) m f l k found bg lines known := by
  have g : ∀ {n : Nat} {o : Ob}, st[n]? = some o → (st ++ more)[n]? = some o := fun {n o} e => by rw [List.getElem?_append_left (List.getElem?_eq_some_iff.mp e).1]; exact e
  exact ⟨g h.ob, g h.fo, g h.li, g h.kn, h.ne, h.pre.app _, h.lo⟩
end T_allcallers_k13_ends_and_bounds
namespace T_allcallers_k13_ends_and_bounds
open PySem L2 D C
abbrev nT : Str := Str.ofString "NoText"
abbrev fRw : Str := Str.ofString "row"
structure AS where
  found : List Piece
  beg : Option Piece
  lines : List Row
  known : List Str
def bgU : Option Piece → U
  | none => .non
  | some p => hdU p
def RX (S0 st : Store) (m : Nat) (s : AS) : Prop := ∃ f l k, RS S0 st m f l k s.found (bgU s.beg) s.lines s.known
def Res (S0 : Store) (r : Rs U) (m : Nat) : AS ⊕ Int → Prop
  | .inl s => ∃ st', r = .ok .non st' ∧ RX S0 st' m s
  | .inr e => ∃ st', r = .ex nT [(fRw, .int e)] st' ∧ Pre S0 st'
noncomputable def endS (s : AS) (a : Int) : AS ⊕ Int := match s.beg with
  | none => .inl s
  | some p => if s.lines = [] then .inr a else match badAt (s.lines.map Row.u) with
    | some b => .inr (a - s.lines.length + b)
    | none => .inl {s with found := s.found ++ [{p with rows := s.lines}], lines := []}
def learnS (s : AS) (ws : List Str) (a : Int) : AS ⊕ Int := if (ws.foldl addK s.known).length ≤ 8 then .inl {s with known := ws.foldl addK s.known} else .inr a
def rowS (s : AS) (r : Row) (a : Int) : AS ⊕ Int := if s.beg = none ∨ s.lines.length = 60 then .inr a else match learnS s r.leaves a with
  | .inr e => .inr e
  | .inl s1 => .inl {s1 with lines := s1.lines ++ [r]}
/-- what stays true -/
structure AOk (s : AS) : Prop where
  fl : s.found.length ≤ 12
  kl : s.known.length ≤ 8
  ll : s.lines.length ≤ 60
  rows : ∀ r ∈ s.lines, r.ok = true
  bg : ∀ p, s.beg = some p → isWordS p.name = true ∧ leavesS p.own = true ∧ argsS p.params = true ∧ (dedS p.params).length = p.params.length
theorem addK_len (ks : List Str) (w : Str) : (addK ks w).length ≤ ks.length + 1 := by
  unfold addK
  split <;> simp
theorem learn_gen (ws : List Str) (hz : ws.length ≤ 100) (a : Int) (m f l k : Nat) (found : List Piece) (bg : U) (lines : List Row) (known : List Str) (st : Store) (h : RS S0 st m f l k found bg lines known) (hk : known.length ≤ 100) :
    if (ws.foldl addK known).length ≤ 8 then ∃ st', f_Reader__learn [.ref m, tS ws, .int a] st = .ok .non st' ∧ RS S0 st' m f l k found bg lines (ws.foldl addK known) else ∃ st', f_Reader__learn [.ref m, tS ws, .int a] st = .ex nT [(fRw, .int a)] st' ∧ Pre S0 st' := by
  obtain ⟨env', st', e, s3, ks, rfl, r, n1, n2⟩ := G2.for_stL (t := tgN 3) (b := t1_Reader__learn) (f := U.str) (fun rest env s => ∃ s3 ks, env = [.val (.ref m), .val (tS ws), .val (.int a), s3] ∧ RS S0 s m f l k found bg lines ks ∧ ks.length + rest.length ≤ 300 ∧ rest.foldl addK ks = ws.foldl addK known) ws [.val (.ref m), .val (tS ws), .val (.int a), .un] st ⟨.un, known, rfl, h, by omega, rfl⟩ (fun w rest env s hwm ⟨s3, ks, he, r, n1, n2⟩ => by
    have lk := lk_known f bg l k
    have o := r.ob
    have kk := r.kn
    have kv := kvs_known ks
    have pk := put_known ks w
    rw [List.length_cons] at n1
    have ksz : ks.length < 16777216 := by omega
    refine ⟨_, [.val (.ref m), .val (tS ws), .val (.int a), .val (.str w)], s.set k (kOb (addK ks w)), rfl, ?_, .val (.str w), addK ks w, rfl, r.setK _, by have := addK_len ks w; omega, by rw [List.foldl_cons] at n2; exact n2⟩
    rw [he]
    show t1_Reader__learn [.val (.ref m), .val (tS ws), .val (.int a), .val (.str w)] s = _
    unfold t1_Reader__learn
    unfold kOb at kk
    generalize FSr f bg l k = FS at *
    generalize tS ws = TW at *
    have kf : kOf (.str w) = some (.inr w) := rfl
    simp [o, lk, kk, kf, kv, pk, ksz])
  have n2 : ks = ws.foldl addK known := n2
  have o := r.ob
  have kk := r.kn
  have lk := lk_known f bg l k
  have it : items (tS ws) = some (ws.map U.str) := rfl
  have lz : (ws.map U.str).length ≤ 16777216 := by rw [List.length_map]; omega
  rw [← n2]
  by_cases q : ks.length ≤ 8
  · rw [if_pos q]
    refine ⟨st', ?_, r⟩
    have k8 : ¬ (8 : Int) < (ks.length : Int) := by omega
    unfold f_Reader__learn b_Reader__learn
    unfold kOb at kk
    generalize FSr f bg l k = FS at *
    generalize tS ws = TW at *
    generalize ws.map U.str = WL at *
    simp [it, e, o, lk, kk, k8]
  · rw [if_neg q]
    refine ⟨st', ?_, r.pre⟩
    have k8 : (8 : Int) < (ks.length : Int) := by omega
    unfold f_Reader__learn b_Reader__learn
    unfold kOb at kk
    generalize FSr f bg l k = FS at *
    generalize tS ws = TW at *
    generalize ws.map U.str = WL at *
    simp [it, e, o, lk, kk, k8, flatU]
theorem end_res {m : Nat} {s : AS} {st : Store} (h : RX S0 st m s) (ok : AOk s) (a : Int) : Res S0 (f_Reader__end [.ref m, .int a] st) m (endS s a) := by
  obtain ⟨f, l, k, h⟩ := h
  unfold endS
  cases hb : s.beg with
  | none =>
    rw [hb] at h
    exact ⟨st, end_none h _, f, l, k, by rw [hb]; exact h⟩
  | some p =>
    rw [hb] at h
    obtain ⟨g1, g2, g3, g4⟩ := ok.bg p hb
    have o := h.ob
    have li := h.li
    have lb := lk_begun f (bgU (some p)) l k
    have ll := lk_lines f (bgU (some p)) l k
    have nn : isnot2 (bgU (some p)) .non = some (.bl true) := rfl
    by_cases q : s.lines = []
    · simp only [if_pos q]
      refine ⟨st, ?_, h.pre⟩
      rw [q] at li
      simp only [List.map_nil] at li
      unfold f_Reader__end b_Reader__end
      generalize FSr f (bgU (some p)) l k = FS at *
      simp [o, lb, ll, nn, li, flatU]
    · simp only [if_neg q]
      have rne : ¬ s.lines.map Row.u = [] := fun z => q (List.map_eq_nil_iff.mp z)
      have tm : (s.lines.map Row.u).all tame2 = true := by
        rw [List.all_eq_true]
        intro u hu
        obtain ⟨r, hr, rfl⟩ := List.mem_map.mp hu
        exact row_tame (ok.rows r hr)
      have br := bad_row_gen (s.lines.map Row.u) (.lst (s.lines.map Row.u)) (.inr rfl) tm []
      rw [← bad_row_eq] at br
      cases hq : badAt (s.lines.map Row.u) with
      | some b =>
        simp only
        rw [hq, show optU (some b) = .int (b : Int) from rfl] at br
        refine ⟨st, ?_, h.pre⟩
        have d1 := der_lst li
        have nr : noRef (.lst (s.lines.map Row.u)) = true := by unfold noRef; exact noRefs_rows _
        have nrs : noRefs [.lst (s.lines.map Row.u)] = true := by unfold noRefs; rw [nr]; unfold noRefs; rfl
        have ln : s.lines.length = (s.lines.map Row.u).length := by rw [List.length_map]
        rw [ln]
        have lz : (s.lines.map Row.u).length ≤ 16777216 := by rw [List.length_map]; have := ok.ll; omega
        have tn : tupU (.int (b : Int)) = true := by unfold tupU; rfl
        have nn1 : isnot2 (.int (b : Int)) .non = some (.bl true) := rfl
        unfold f_Reader__end b_Reader__end
        generalize FSr f (bgU (some p)) l k = FS at *
        generalize s.lines.map Row.u = RU at *
        simp [o, lb, ll, nn, li, rne, d1, nrs, nr, br, tn, nn1, lz, flatU, flat1]
      | none =>
        simp only
        have hp : Piece.ok {p with rows := s.lines} = true := by
          have e : Piece.ok {p with rows := s.lines} = (headU (Piece.u {p with rows := s.lines}) && (badAt (s.lines.map Row.u)).isNone) := rfl
          have hh : headU (Piece.u {p with rows := s.lines}) = (isWordS p.name && leavesS p.own && argsU (tS p.params) && nodupU (tS p.params) && rowsU (.tup (s.lines.map Row.u))) := rfl
          have nd : nodupU (tS p.params) = decide ((dedS p.params).length = p.params.length) := by
            show (match strsU (p.params.map U.str) with | some ws => _ | none => _) = _
            rw [strs_map]
          have hr : rowsU (.tup (s.lines.map Row.u)) = decide (1 ≤ s.lines.length ∧ s.lines.length ≤ 60) := by
            unfold rowsU
            simp only [List.length_map]
          have l1 : 1 ≤ s.lines.length := List.length_pos_iff.mpr q
          rw [e, hh, hq, argsU_txt, nd, hr, g1, g2, g3, g4]
          simp [l1, ok.ll]
        obtain ⟨l', st', e, r⟩ := end_piece (p := {p with rows := s.lines}) hp (by have := ok.fl; omega) h (.int a)
        refine ⟨st', e, f, l', k, ?_⟩
        exact r
end T_allcallers_k13_ends_and_bounds
namespace T_allcallers_k13_ends_and_bounds
open PySem L2 D C TX TL
variable {S0 : Store}
noncomputable def headO (s : AS) (hd : Option Piece) (a : Int) : AS ⊕ Int := match endS s a with
  | .inr e => .inr e
  | .inl s1 => match hd with
    | none => .inr a
    | some p => if p.name ∈ s1.found.map Piece.name ∨ s1.found.length = 12 then .inr a else learnS {s1 with beg := some p} p.own a
theorem end_len {s s1 : AS} {a : Int} (h : endS s a = .inl s1) : s1.found.length ≤ s.found.length + 1 ∧ s1.known = s.known := by
  unfold endS at h
  split at h
  · cases h; exact ⟨by omega, rfl⟩
  · split at h
    · cases h
    · split at h
      · cases h
      · cases h; exact ⟨by simp, rfl⟩
theorem rx_ob {st : Store} {m : Nat} {s : AS} (h : RX S0 st m s) : ∃ f bg l k, st[m]? = some (.obj sR (FSr f bg l k)) := by
  obtain ⟨f, l, k, h⟩ := h
  exact ⟨_, _, _, _, h.ob⟩
set_option maxHeartbeats 2000000 in
theorem begin_res {m : Nat} {s : AS} {st : Store} (h : RX S0 st m s) (ok : AOk s) (W : U) (hd : Option Piece) (hho : ∀ st, f_head_of [W] st = .ok (bgU hd) st) (hown : ∀ p, hd = some p → p.own.length ≤ 100) (a : Int) : Res S0 (f_Reader__begin [.ref m, W, .int a] st) m (headO s hd a) := by
  have er := end_res h ok a
  obtain ⟨f0, bg0, l0, k0, o0⟩ := rx_ob h
  have me := m_end f0 bg0 l0 k0
  have a1 := alt1 f_Reader__end
  unfold headO
  cases he : endS s a with
  | inr e =>
    rw [he] at er
    obtain ⟨st', e1, pr⟩ := er
    refine ⟨st', ?_, pr⟩
    unfold f_Reader__begin b_Reader__begin
    generalize FSr f0 bg0 l0 k0 = FS0 at *
    generalize f_Reader__end = fe at *
    simp [o0, me, a1, e1]
  | inl s1 =>
    rw [he] at er
    obtain ⟨hfl, hkn⟩ := end_len he
    obtain ⟨st1, e1, f, l, k, r1⟩ := er
    have ho := hho st1
    obtain ⟨st2, hst2⟩ : ∃ s : Store, s = st1.set m (.obj sR (FSr f (bgU hd) l k)) := ⟨_, rfl⟩
    have r2 : RS S0 st2 m f l k s1.found (bgU hd) s1.lines s1.known := by rw [hst2]; exact r1.setB _
    have o1 := r1.ob
    have o2 := r2.ob
    have fo := r2.fo
    have pb := pt_begun f (bgU s1.beg) l k (bgU hd)
    have l5 := fs_len f (bgU s1.beg) l k
    have lb := lk_begun f (bgU hd) l k
    have hst2' := hst2.symm
    cases hd with
    | none =>
      simp only
      refine ⟨st2, ?_, r2.pre⟩
      have nn : is2 (bgU none) .non = some (.bl true) := rfl
      unfold f_Reader__begin b_Reader__begin
      generalize FSr f0 bg0 l0 k0 = FS0 at *
      generalize FSr f (bgU s1.beg) l k = FS1 at *
      generalize FSr f (bgU none) l k = FS2 at *
      generalize bgU none = HU at *
      generalize f_Reader__end = fe at *
      generalize f_head_of = fh at *
      simp [o0, me, a1, e1, ho, o1, l5, pb, hst2', o2, lb, nn, flatU]
    | some p =>
      simp only
      have ml := m_learn f (hdU p) l k
      have a2 := alt1 f_Reader__learn
      have lf := lk_found f (hdU p) l k
      have lm := lk_most f (hdU p) l k
      have nn : is2 (hdU p) .non = some (.bl false) := rfl
      have i0 : ix2 (hdU p) (.int 0) = some (.str p.name) := rfl
      have i1 : ix2 (hdU p) (.int 1) = some (tS p.own) := rfl
      have bgp : bgU (some p) = hdU p := rfl
      simp only [bgp] at ho r2 o2 lb pb hst2 hst2'
      have cm : ∀ a0 a1 a2 : Sl, compL (tgN 3) yesT (bin ix2 (var 3) (cst (.int 0))) (s1.found.map Piece.u) [a0, a1, a2, .un] [] = .ok ((s1.found.map Piece.name).map U.str) [] := fun a0 a1 a2 => by
        rw [List.map_map]
        exact comp_allM s1.found fun q hq => ⟨_, rfl, by
          have : ix2 q.u (.int 0) = some (.str q.name) := rfl
          generalize q.u = QU at *
          simp [this]⟩
      have fa : ((s1.found.map Piece.name).map U.str).all flatU = true := by
        rw [List.all_eq_true]
        intro u hu
        obtain ⟨w, _, rfl⟩ := List.mem_map.mp hu
        rfl
      have fa' : ∀ u ∈ (s1.found.map Piece.name).map U.str, flatU u = true := fun u hu => List.all_eq_true.mp fa u hu
      have nb := noRefs_book s1.found
      have fl12 := ok.fl
      have fint : flatU (.int a) = true := rfl
      have dz : (s1.found.map Piece.u).length ≤ 16777216 := by rw [List.length_map]; omega
      have inn : in2 (.str p.name) (.lst ((s1.found.map Piece.name).map U.str)) = some (.bl (decide (p.name ∈ s1.found.map Piece.name))) := in_txtL p.name (s1.found.map Piece.name)
      have ve : ∀ (s0 s1 s2 : Sl), ∃ b0 b1 b2, wipeE (viewE [s0, s1, s2, .un]) [3] = [b0, b1, b2, .un] := fun s0 s1 s2 => ⟨_, _, _, rfl⟩
      obtain ⟨b0, b1, b2, veq⟩ := ve (.val (.ref m)) (.val W) (.val (.int a))
      have el : (s1.found.map Piece.u).length = s1.found.length := List.length_map ..
      by_cases hdup : p.name ∈ s1.found.map Piece.name
      · rw [if_pos (.inl hdup)]
        rw [decide_eq_true hdup] at inn
        refine ⟨st2, ?_, r2.pre⟩
        unfold f_Reader__begin b_Reader__begin
        generalize FSr f0 bg0 l0 k0 = FS0 at *
        generalize FSr f (bgU s1.beg) l k = FS1 at *
        generalize FSr f (hdU p) l k = FS2 at *
        generalize hdU p = HU at *
        generalize (s1.found.map Piece.name).map U.str = NM at *
        generalize s1.found.map Piece.u = DU at *
        generalize f_Reader__end = fe at *
        generalize f_head_of = fh at *
        simp [o0, me, a1, e1, ho, o1, l5, pb, hst2', o2, lb, nn, i0, lf, fo, dz, nb, veq, cm, noEx, fa, if_pos fa', inn, fint]
      · rw [decide_eq_false hdup] at inn
        by_cases h12 : s1.found.length = 12
        · rw [if_pos (.inr h12)]
          refine ⟨st2, ?_, r2.pre⟩
          rw [h12] at el
          unfold f_Reader__begin b_Reader__begin
          generalize FSr f0 bg0 l0 k0 = FS0 at *
          generalize FSr f (bgU s1.beg) l k = FS1 at *
          generalize FSr f (hdU p) l k = FS2 at *
          generalize hdU p = HU at *
          generalize (s1.found.map Piece.name).map U.str = NM at *
          generalize s1.found.map Piece.u = DU at *
          generalize f_Reader__end = fe at *
          generalize f_head_of = fh at *
          simp [o0, me, a1, e1, ho, o1, l5, pb, hst2', o2, lb, nn, i0, lf, fo, dz, nb, veq, cm, noEx, fa, if_pos fa', inn, lm, el, fint]
        · rw [if_neg (fun z => z.elim hdup h12)]
          have l12 : ¬ ((s1.found.map Piece.u).length : Int) = 12 := by rw [el]; omega
          have l12' : ¬ (s1.found.map Piece.u).length = 12 := by rw [el]; exact h12
          have lg := learn_gen p.own (hown p rfl) a m f l k s1.found (hdU p) s1.lines s1.known st2 r2 (by rw [hkn]; have := ok.kl; omega)
          unfold learnS
          have common : ∀ (res : Rs U), f_Reader__learn [.ref m, tS p.own, .int a] st2 = res → f_Reader__begin [.ref m, W, .int a] st = fin ((res.out [.val (.ref m), .val W, .val (.int a), .un] fun _ st1 => .nx [.val (.ref m), .val W, .val (.int a), .un] st1).seq sNil) := fun res e3 => by
            unfold f_Reader__begin b_Reader__begin
            generalize FSr f0 bg0 l0 k0 = FS0 at *
            generalize FSr f (bgU s1.beg) l k = FS1 at *
            generalize FSr f (hdU p) l k = FS2 at *
            generalize hdU p = HU at *
            generalize (s1.found.map Piece.name).map U.str = NM at *
            generalize s1.found.map Piece.u = DU at *
            generalize tS p.own = PO at *
            generalize f_Reader__end = fe at *
            generalize f_Reader__learn = fl at *
            generalize f_head_of = fh at *
            simp [o0, me, a1, e1, ho, o1, l5, pb, hst2', o2, lb, nn, i0, i1, lf, fo, dz, nb, veq, cm, noEx, fa, if_pos fa', inn, lm, l12, l12', ml, a2, e3]
          by_cases k8 : (p.own.foldl addK s1.known).length ≤ 8
          · rw [if_pos k8] at lg
            simp only [if_pos k8]
            obtain ⟨st3, e3, r3⟩ := lg
            refine ⟨st3, ?_, f, l, k, r3⟩
            rw [common _ e3]; rfl
          · rw [if_neg k8] at lg
            simp only [if_neg k8]
            obtain ⟨st3, e3, pr⟩ := lg
            refine ⟨st3, ?_, pr⟩
            rw [common _ e3]; rfl
/-- a row that begins with piece -/
theorem take_head_res {m : Nat} {s : AS} {st : Store} (h : RX S0 st m s) (ok : AOk s) (TT : Str) (ws : List Str) (spl : Txt.split TT (Str.ofString " ") = Str.ofString "piece" :: ws) (sl : TT.length + 2 ≤ 16777216) (hd : Option Piece) (hho : ∀ st, f_head_of [lS (Str.ofString "piece" :: ws)] st = .ok (bgU hd) st) (hown : ∀ p, hd = some p → p.own.length ≤ 100) (a : Int) : Res S0 (f_Reader__take [.ref m, .str TT, .int a] st) m (headO s hd a) := by
  have br := begin_res h ok (lS (Str.ofString "piece" :: ws)) hd hho hown a
  obtain ⟨f0, bg0, l0, k0, o0⟩ := rx_ob h
  have mb := m_begin f0 bg0 l0 k0
  have a1 := alt1 f_Reader__begin
  have sl' : TT.length ≤ 16777214 := by omega
  have b1 : ¬ (Str.ofString " ").length = 0 := by decide +kernel
  have i0 : ix2 (.lst ((Str.ofString "piece" :: ws).map U.str)) (.int 0) = some (.str (Str.ofString "piece")) := by
    rw [List.map_cons]; exact atI_cast _ 0
  have common : ∀ (res : Rs U), f_Reader__begin [.ref m, .lst ((Str.ofString "piece" :: ws).map U.str), .int a] st = res → f_Reader__take [.ref m, .str TT, .int a] st = fin ((res.out [.val (.ref m), .val (.str TT), .val (.int a), .val (.lst ((Str.ofString "piece" :: ws).map U.str)), .un] fun _ st1 => .rt .non st1)) := fun res e => by
    unfold f_Reader__take b_Reader__take
    generalize hHW : (Str.ofString "piece" :: ws).map U.str = HW at *
    generalize FSr f0 bg0 l0 k0 = FS0 at *
    generalize f_Reader__begin = fb at *
    simp [sl', b1, spl, hHW, i0, o0, mb, a1, e]
    cases res <;> rfl
  cases ho : headO s hd a with
  | inl s1 =>
    rw [ho] at br
    obtain ⟨st', e, r⟩ := br
    exact ⟨st', by rw [common _ e]; rfl, r⟩
  | inr e =>
    rw [ho] at br
    obtain ⟨st', e, pr⟩ := br
    exact ⟨st', by rw [common _ e]; rfl, pr⟩
end T_allcallers_k13_ends_and_bounds
namespace T_allcallers_k13_ends_and_bounds
open PySem L2 D C TX TL
variable {S0 : Store}
def rowU : Option Row → U
  | none => .non
  | some r => r.u
def rowO (s : AS) (ro : Option Row) (a : Int) : AS ⊕ Int := match ro with
  | none => .inr a
  | some r => rowS s r a
set_option maxHeartbeats 2000000 in
theorem take_row_res {m : Nat} {s : AS} {st : Store} (h : RX S0 st m s) (ok : AOk s) (TT w0 : Str) (ws : List Str) (spl : Txt.split TT (Str.ofString " ") = w0 :: ws) (np : ¬ w0 = Str.ofString "piece") (sl : TT.length + 2 ≤ 16777216) (ro : Option Row) (hro : ∀ st, ∃ more, f_row_of [lS (w0 :: ws)] st = .ok (rowU ro) (st ++ more)) (hok : ∀ r, ro = some r → r.ok = true) (a : Int) : Res S0 (f_Reader__take [.ref m, .str TT, .int a] st) m (rowO s ro a) := by
  obtain ⟨f, l, k, h⟩ := h
  obtain ⟨more, e1⟩ := hro st
  have r1 := h.more more
  have o0 := h.ob
  have o1 := r1.ob
  have li1 := r1.li
  have mb := m_learn f (bgU s.beg) l k
  have lb := lk_begun f (bgU s.beg) l k
  have ll := lk_lines f (bgU s.beg) l k
  have a1 := alt1 f_Reader__learn
  have sl' : TT.length ≤ 16777214 := by omega
  have b1 : ¬ (Str.ofString " ").length = 0 := by decide +kernel
  have i0 : ix2 (.lst ((w0 :: ws).map U.str)) (.int 0) = some (.str w0) := by rw [List.map_cons]; exact atI_cast _ 0
  have e1 : f_row_of [.lst ((w0 :: ws).map U.str)] st = .ok (rowU ro) (st ++ more) := e1
  have fint : flatU (.int a) = true := rfl
  have isn : is2 .non .non = some (.bl true) := rfl
  cases hb : s.beg with
  | none =>
    have hr : rowO s ro a = .inr a := by
      unfold rowO
      cases ro with
      | none => rfl
      | some r =>
        show (if s.beg = none ∨ s.lines.length = 60 then Sum.inr a else _) = _
        rw [if_pos (Or.inl hb)]
    rw [hr]
    refine ⟨st ++ more, ?_, r1.pre⟩
    rw [hb, show bgU none = .non from rfl] at o0 o1 lb
    unfold f_Reader__take b_Reader__take
    generalize hHW : (w0 :: ws).map U.str = HW at *
    generalize FSr f .non l k = FS0 at *
    simp [sl', b1, spl, hHW, i0, np, e1, o0, o1, lb, isn, fint]
  | some p =>
    have hbg : is2 (bgU s.beg) .non = some (.bl false) := by rw [hb]; rfl
    cases ro with
    | none =>
      refine ⟨st ++ more, ?_, r1.pre⟩
      have e1 : f_row_of [.lst ((w0 :: ws).map U.str)] st = .ok .non (st ++ more) := e1
      unfold f_Reader__take b_Reader__take
      generalize hHW : (w0 :: ws).map U.str = HW at *
      generalize FSr f (bgU s.beg) l k = FS0 at *
      generalize bgU s.beg = BG at *
      simp [sl', b1, spl, hHW, i0, np, e1, o0, o1, lb, hbg, isn, fint]
    | some r =>
      have e1 : f_row_of [.lst ((w0 :: ws).map U.str)] st = .ok r.u (st ++ more) := e1
      have nr : is2 r.u .non = some (.bl false) := by cases r <;> rfl
      have el : (s.lines.map Row.u).length = s.lines.length := List.length_map ..
      have hl60 := ok.ll
      unfold rowO rowS
      simp only
      by_cases h60 : s.lines.length = 60
      · rw [if_pos (.inr h60)]
        refine ⟨st ++ more, ?_, r1.pre⟩
        rw [h60] at el
        unfold f_Reader__take b_Reader__take
        generalize hHW : (w0 :: ws).map U.str = HW at *
        generalize FSr f (bgU s.beg) l k = FS0 at *
        generalize bgU s.beg = BG at *
        generalize s.lines.map Row.u = LU at *
        generalize r.u = RU at *
        simp [sl', b1, spl, hHW, i0, np, e1, o0, o1, lb, ll, hbg, nr, li1, el, fint]
      · rw [if_neg (fun z => z.elim (fun q => by rw [hb] at q; cases q) h60)]
        have l60 : ¬ ((s.lines.map Row.u).length : Int) = 60 := by rw [el]; omega
        have l60' : ¬ (s.lines.map Row.u).length = 60 := by rw [el]; exact h60
        have lz : (s.lines.map Row.u).length < 16777216 := by rw [el]; omega
        have lv := leaves_in_ev r (st ++ more)
        rw [← leaves_in_eq] at lv
        have lg := learn_gen r.leaves (Nat.le_trans (row_leaves_len (hok r rfl)) (by decide)) a m f l k s.found (bgU s.beg) s.lines s.known (st ++ more) r1 (by have := ok.kl; omega)
        unfold learnS
        by_cases k8 : (r.leaves.foldl addK s.known).length ≤ 8
        · rw [if_pos k8] at lg
          simp only [if_pos k8]
          obtain ⟨st2, e2, r2⟩ := lg
          refine ⟨st2.set l (.lst ((s.lines ++ [r]).map Row.u)), ?_, f, l, k, r2.setL _⟩
          have mp : (s.lines ++ [r]).map Row.u = s.lines.map Row.u ++ [r.u] := by simp
          rw [mp]
          have o2 := r2.ob
          have li2 := r2.li
          unfold f_Reader__take b_Reader__take
          generalize hHW : (w0 :: ws).map U.str = HW at *
          generalize FSr f (bgU s.beg) l k = FS0 at *
          generalize bgU s.beg = BG at *
          generalize f_Reader__learn = fb at *
          generalize s.lines.map Row.u = LU at *
          generalize r.u = RU at *
          generalize tS r.leaves = TL at *
          simp [sl', b1, spl, hHW, i0, np, e1, o0, o1, lb, ll, hbg, nr, li1, l60, l60', lv, mb, a1, e2, o2, li2, lz]
        · rw [if_neg k8] at lg
          simp only [if_neg k8]
          obtain ⟨st2, e2, pr⟩ := lg
          refine ⟨st2, ?_, pr⟩
          unfold f_Reader__take b_Reader__take
          generalize hHW : (w0 :: ws).map U.str = HW at *
          generalize FSr f (bgU s.beg) l k = FS0 at *
          generalize bgU s.beg = BG at *
          generalize f_Reader__learn = fb at *
          generalize s.lines.map Row.u = LU at *
          generalize r.u = RU at *
          generalize tS r.leaves = TL at *
          simp [sl', b1, spl, hHW, i0, np, e1, o0, o1, lb, ll, hbg, nr, li1, l60, l60', lv, mb, a1, e2]
theorem ok_end {s s1 : AS} {a : Int} (ok : AOk s) (h : endS s a = .inl s1) (hf : s.found.length < 12 ∨ s.beg = none) : AOk s1 ∧ s1.beg = s.beg := by
  unfold endS at h
  split at h
  · cases h; exact ⟨ok, rfl⟩
  · rename_i p hp
    have hf : s.found.length < 12 := by
      rcases hf with q | q
      · exact q
      · rw [hp] at q; cases q
    split at h
    · cases h
    · split at h
      · cases h
      · cases h
        exact ⟨⟨by simp; omega, ok.kl, by simp, (fun _ z => nomatch z), ok.bg⟩, rfl⟩
end T_allcallers_k13_ends_and_bounds
namespace T_allcallers_k13_ends_and_bounds
open PySem L2 D C TX TL
variable {S0 : Store}
theorem set_app (st l : Store) (i : Nat) (x : Ob) : (st ++ l).set (st.length + i) x = st ++ l.set i x := by
  rw [List.set_append_right _ _ (Nat.le_add_right ..)]; congr 2; omega
theorem get_app (st l : Store) (i : Nat) : (st ++ l)[st.length + i]? = l[i]? := by
  rw [List.getElem?_append_right (Nat.le_add_right ..)]; congr 1; omega
def inU (p : U × Str) : U := .tup [p.1, .str p.2]
def EV (TT RR : U) (m : Nat) (env : D.Env) : Prop := ∃ s4 s5, env = [.val TT, .val (.int 12), .val (.ref m), .val RR, s4, s5]
theorem put0 (x : Str) (v : U) : putU x v [] = [(x, v)] := rfl
theorem putN (x y : Str) (u v : U) (r : List (Str × U)) (h : y ≠ x) : putU x v ((y, u) :: r) = (y, u) :: putU x v r := by
  rw [putU, if_neg h]
set_option maxHeartbeats 2000000 in
theorem init_ev (st : Store) : f_Reader____init__ [.ref st.length, .int 12] (st ++ [.obj sR []]) = .ok .non (st ++ [.obj sR (FSr (st.length + 1) .non (st.length + 2) (st.length + 3)), .lst [], .lst [], .dct [] []]) := by
  have g0 := get_app st
  have s0 := set_app st
  have g1 : ∀ l : Store, (st ++ l)[st.length]? = l[0]? := fun l => get_app st l 0
  have s1 : ∀ (l : Store) (x : Ob), (st ++ l).set st.length x = st ++ l.set 0 x := fun l x => set_app st l 0 x
  have n1 : Str.ofString "most" ≠ Str.ofString "found" := by decide +kernel
  have n2 : Str.ofString "most" ≠ Str.ofString "begun" := by decide +kernel
  have n3 : Str.ofString "most" ≠ Str.ofString "lines" := by decide +kernel
  have n4 : Str.ofString "most" ≠ Str.ofString "known" := by decide +kernel
  have n5 : Str.ofString "found" ≠ Str.ofString "begun" := by decide +kernel
  have n6 : Str.ofString "found" ≠ Str.ofString "lines" := by decide +kernel
  have n7 : Str.ofString "found" ≠ Str.ofString "known" := by decide +kernel
  have n8 : Str.ofString "begun" ≠ Str.ofString "lines" := by decide +kernel
  have n9 : Str.ofString "begun" ≠ Str.ofString "known" := by decide +kernel
  have n10 : Str.ofString "lines" ≠ Str.ofString "known" := by decide +kernel
  unfold f_Reader____init__ b_Reader____init__ FSr
  simp [g1, s1, put0, putN, n1, n2, n3, n4, n5, n6, n7, n8, n9, n10, fin]
theorem mapIdx_zip (f : Nat → U) (ws : List Str) : ws.mapIdx (fun i w => U.tup [f i, .str w]) = (((List.range ws.length).map f).zip ws).map inU := by
  apply List.ext_getElem?
  intro i
  by_cases h : i < ws.length
  · simp [List.getElem?_zip_eq_some, h, inU]
  · simp [h, Nat.le_of_not_lt h]
structure Line where
  T : Str
  act : AS → Int → AS ⊕ Int
def AI (s : AS) : Prop := AOk s ∧ (s.beg ≠ none → s.found.length ≤ 11) ∧ ∀ p ∈ s.found, p.rows.length ≤ 60
structure LOk (L : Line) : Prop where
  ev : ∀ (S0 : Store) (m : Nat) (s : AS) (st : Store) (a : Int), RX S0 st m s → AI s → Res S0 (f_Reader__take [.ref m, .str L.T, .int a] st) m (L.act s a)
  inv : ∀ (s s1 : AS) (a : Int), AI s → L.act s a = .inl s1 → AI s1
def run : AS → Int → List Line → AS ⊕ Int
  | s, _, [] => .inl s
  | s, i, L :: Ls => match L.act s i with
    | .inr e => .inr e
    | .inl s1 => run s1 (i + 1) Ls
theorem loop_res {TT RR : U} {m : Nat} : ∀ (Ls : List Line) (i : Nat) (s : AS) (st : Store) (env : D.Env), (∀ L ∈ Ls, LOk L) → RX S0 st m s → AI s → EV TT RR m env →
    match run s (i : Int) Ls with
    | .inl s1 => ∃ env' st', forL (tgT [4, 5]) t1_read_pieces ((((List.range' i Ls.length).map fun j => U.int (j : Nat)).zip (Ls.map Line.T)).map inU) env st = .nx env' st' ∧ RX S0 st' m s1 ∧ AI s1 ∧ EV TT RR m env'
    | .inr e => ∃ env' st', forL (tgT [4, 5]) t1_read_pieces ((((List.range' i Ls.length).map fun j => U.int (j : Nat)).zip (Ls.map Line.T)).map inU) env st = .ex nT [(fRw, .int e)] env' st' ∧ Pre S0 st'
  | [], i, s, st, env, _, hx, ok, he => ⟨env, st, rfl, hx, ok, he⟩
  | L :: Ls, i, s, st, env, hL, hx, ok, he => by
    have hl := hL L (List.mem_cons_self ..)
    have r := hl.ev S0 m s st i hx ok
    obtain ⟨f0, bg0, l0, k0, o⟩ := rx_ob hx
    obtain ⟨s4, s5, rfl⟩ := he
    have mt := m_take f0 bg0 l0 k0
    have a1 := alt1 f_Reader__take
    have tg : tgT [4, 5] (inU (.int (i : Nat), L.T)) = some [(4, .int (i : Nat)), (5, .str L.T)] := rfl
    have hs : setE [.val TT, .val (.int 12), .val (.ref m), .val RR, s4, s5] [(4, .int (i : Nat)), (5, .str L.T)] = [.val TT, .val (.int 12), .val (.ref m), .val RR, .val (.int (i : Nat)), .val (.str L.T)] := rfl
    rw [List.length_cons, List.range'_succ, List.map_cons, List.map_cons, List.zip_cons_cons, List.map_cons, for_cons, tg]
    simp only [hs]
    have hrun : run s (i : Int) (L :: Ls) = match L.act s i with
      | .inr e => .inr e
      | .inl s1 => run s1 ((i : Int) + 1) Ls := rfl
    rw [hrun]
    cases ha : L.act s i with
    | inr e =>
      rw [ha] at r
      obtain ⟨st', e1, pr⟩ := r
      refine ⟨[.val TT, .val (.int 12), .val (.ref m), .val RR, .val (.int (i : Nat)), .val (.str L.T)], st', ?_, pr⟩
      have : t1_read_pieces [.val TT, .val (.int 12), .val (.ref m), .val RR, .val (.int (i : Nat)), .val (.str L.T)] st = .ex nT [(fRw, .int e)] [.val TT, .val (.int 12), .val (.ref m), .val RR, .val (.int (i : Nat)), .val (.str L.T)] st' := by
        unfold t1_read_pieces
        generalize FSr f0 bg0 l0 k0 = FS at *
        generalize f_Reader__take = ft at *
        simp [o, mt, a1, e1]
      rw [this]
    | inl s1 =>
      rw [ha] at r
      obtain ⟨st', e1, hx1⟩ := r
      have ok1 := hl.inv s s1 i ok ha
      have : t1_read_pieces [.val TT, .val (.int 12), .val (.ref m), .val RR, .val (.int (i : Nat)), .val (.str L.T)] st = .nx [.val TT, .val (.int 12), .val (.ref m), .val RR, .val (.int (i : Nat)), .val (.str L.T)] st' := by
        unfold t1_read_pieces
        generalize FSr f0 bg0 l0 k0 = FS at *
        generalize f_Reader__take = ft at *
        simp [o, mt, a1, e1]
      rw [this]
      exact loop_res Ls (i + 1) s1 st' _ (fun x hx => hL x (List.mem_cons_of_mem _ hx)) hx1 ok1 ⟨_, _, rfl⟩
def s0 : AS := ⟨[], none, [], []⟩
theorem ai0 : AI s0 := ⟨⟨by decide, by decide, by decide, (fun _ h => nomatch h), (fun _ h => nomatch h)⟩, fun h => absurd rfl h, fun _ h => nomatch h⟩
/-- what the reading of a text comes to -/
noncomputable def readS (Ls : List Line) : AS ⊕ Int := match run s0 0 Ls with
  | .inr e => .inr e
  | .inl s => endS s Ls.length
theorem end_rows {s s2 : AS} {a : Int} (h : AI s) (e : endS s a = .inl s2) : s2.found.length ≤ 100 ∧ ∀ p ∈ s2.found, p.rows.length ≤ 60 := by
  have fl := h.1.fl
  unfold endS at e
  split at e
  · cases e; exact ⟨by omega, h.2.2⟩
  · split at e
    · cases e
    · split at e
      · cases e
      · cases e
        refine ⟨by simp; omega, fun p hp => ?_⟩
        rcases List.mem_append.mp hp with q | q
        · exact h.2.2 p q
        · rw [List.mem_singleton.mp q]; exact h.1.ll
set_option maxHeartbeats 2000000 in
theorem read_res (TT : Str) (Ls : List Line) (spl : Txt.split TT (Str.ofString "\n") = Ls.map Line.T) (sl : TT.length + 2 ≤ 16777216) (hz : Ls.length ≤ 1000) (hL : ∀ L ∈ Ls, LOk L) (st : Store) :
    match readS Ls with
    | .inl s => ∃ f st', f_read_book [.str TT] st = .ok (.ref f) st' ∧ st'[f]? = some (.lst (s.found.map Piece.u)) ∧ (s.found.length ≤ 100 ∧ ∀ p ∈ s.found, p.rows.length ≤ 60) ∧ Pre st st'
    | .inr e => ∃ st', f_read_book [.str TT] st = .ex nT [(fRw, .int e)] st' ∧ Pre st st' := by
  have iv := init_ev st
  obtain ⟨sA, hs0⟩ : ∃ s : Store, s = st ++ [.obj sR (FSr (st.length + 1) .non (st.length + 2) (st.length + 3)), .lst [], .lst [], .dct [] []] := ⟨_, rfl⟩
  have r0 : RX st sA st.length s0 := by
    rw [hs0]
    exact ⟨st.length + 1, st.length + 2, st.length + 3, get_app st _ 0, get_app st _ 1, get_app st _ 2, get_app st _ 3, by omega, Pre.app (fun _ _ e => e) _, by omega, by omega, by omega, by omega⟩
  rw [← hs0] at iv
  have len : (numU ((Ls.map Line.T).map U.str)) = (((List.range' 0 Ls.length).map fun j => U.int (j : Nat)).zip (Ls.map Line.T)).map inU := by
    have := mapIdx_zip (fun i => U.int (i : Nat)) (Ls.map Line.T)
    rw [List.length_map, List.range_eq_range'] at this
    rw [← this]
    unfold numU
    apply List.ext_getElem?
    intro i
    simp
    rfl
  have lr := loop_res (TT := .str TT) (RR := .lst ((Ls.map Line.T).map U.str)) (m := st.length) Ls 0 s0 sA [.val (.str TT), .val (.int 12), .val (.ref st.length), .val (.lst ((Ls.map Line.T).map U.str)), .un, .un] hL r0 ai0 ⟨_, _, rfl⟩
  rw [← len] at lr
  have sl' : TT.length ≤ 16777214 := by omega
  have b1 : ¬ (Str.ofString "\n").length = 0 := by decide +kernel
  have en : enumerateN [.lst ((Ls.map Line.T).map U.str)] = some (numU ((Ls.map Line.T).map U.str)) := rfl
  have lz : ((Ls.map Line.T).map U.str).length ≤ 16777216 := by simp; omega
  have ll : ((Ls.map Line.T).map U.str).length = Ls.length := by simp
  have iz : isiN [.str TT, .ty "str"] = some (.bl true) := rfl
  unfold readS
  have z0 : ((0 : Nat) : Int) = 0 := rfl
  rw [z0] at lr
  cases hr : run s0 0 Ls with
  | inr e =>
    rw [hr] at lr
    obtain ⟨env', st', fe, pr⟩ := lr
    refine ⟨st', ?_, pr⟩
    unfold f_read_book b_read_book f_read_pieces b_read_pieces
    generalize numU ((Ls.map Line.T).map U.str) = NU at *
    generalize hLU : (Ls.map Line.T).map U.str = LU at *
    generalize Ls.map Line.T = LT at *
    generalize f_Reader____init__ = fi at *
    simp [iz, iv, sl', b1, spl, hLU, en, fe]
  | inl s =>
    rw [hr] at lr
    obtain ⟨env', st', fe, hx, ok, s4, s5, rfl⟩ := lr
    have er := end_res hx ok.1 (Ls.length : Int)
    obtain ⟨f0, bg0, l0, k0, o0⟩ := rx_ob hx
    have me := m_end f0 bg0 l0 k0
    have a1 := alt1 f_Reader__end
    have ln : lenN [.lst ((Ls.map Line.T).map U.str)] = some (.int (Ls.length : Int)) := by
      rw [← ll]; simp [lz]
    simp only
    cases hq : endS s Ls.length with
    | inr e =>
      rw [hq] at er
      obtain ⟨st2, e2, pr⟩ := er
      refine ⟨st2, ?_, pr⟩
      unfold f_read_book b_read_book f_read_pieces b_read_pieces
      generalize numU ((Ls.map Line.T).map U.str) = NU at *
      generalize hLU : (Ls.map Line.T).map U.str = LU at *
      generalize Ls.map Line.T = LT at *
      generalize FSr f0 bg0 l0 k0 = FS0 at *
      generalize f_Reader____init__ = fi at *
      generalize f_Reader__end = fe' at *
      simp [iz, iv, sl', b1, spl, hLU, en, fe, o0, me, a1, ln, e2]
    | inl s2 =>
      rw [hq] at er
      obtain ⟨st2, e2, f, l, k, r2⟩ := er
      have er2 := end_rows ok hq
      refine ⟨f, st2, ?_, r2.fo, er2, r2.pre⟩
      have o2 := r2.ob
      have lf := lk_found f (bgU s2.beg) l k
      unfold f_read_book b_read_book f_read_pieces b_read_pieces
      generalize numU ((Ls.map Line.T).map U.str) = NU at *
      generalize hLU : (Ls.map Line.T).map U.str = LU at *
      generalize Ls.map Line.T = LT at *
      generalize FSr f0 bg0 l0 k0 = FS0 at *
      generalize FSr f (bgU s2.beg) l k = FS at *
      generalize f_Reader____init__ = fi at *
      generalize f_Reader__end = fe' at *
      simp [iz, iv, sl', b1, spl, hLU, en, fe, o0, me, a1, ln, e2, o2, lf]
def toldU (o : AS ⊕ Int) : U := match o with
  | .inl s => .lst (s.found.map fun p => U.int p.rows.length)
  | .inr e => .int e
theorem told_res (TT : Str) (Ls : List Line) (spl : Txt.split TT (Str.ofString "\n") = Ls.map Line.T) (sl : TT.length + 2 ≤ 16777216) (hz : Ls.length ≤ 1000) (hL : ∀ L ∈ Ls, LOk L) (st : Store) :
    ∃ st', f_l_told [.str TT] st = .ok (toldU (readS Ls)) st' ∧ Pre st st' := by
  have r := read_res TT Ls spl sl hz hL st
  have tb : tabB [(nT, true)] nT = some true := by decide +kernel
  have isn : is2 .non .non = some (.bl true) := rfl
  cases hq : readS Ls with
  | inr e =>
    rw [hq] at r
    obtain ⟨st', e1, pr⟩ := r
    refine ⟨st', ?_, pr⟩
    have lk : List.lookup fRw [(fRw, U.int e)] = some (.int e) := by simp
    unfold f_l_told b_l_told toldU
    generalize f_read_book = fb at *
    simp [e1, tb, lk, isn]
  | inl s =>
    rw [hq] at r
    obtain ⟨f, st', e1, hf, ⟨fl, fr⟩, pr⟩ := r
    refine ⟨st', ?_, pr⟩
    have isr : is2 (.ref f) .non = some (.bl false) := rfl
    have nb := noRefs_book s.found
    have dz : (s.found.map Piece.u).length ≤ 16777216 := by rw [List.length_map]; omega
    have cm : ∀ a0 a1 a2 a4 : Sl, compL (tgN 3) yesT (appN lenN (acons (bin ix2 (var 3) (cst (.int 3))) anil)) (s.found.map Piece.u) [a0, a1, a2, .un, a4] [] = .ok (s.found.map fun p => U.int p.rows.length) [] := fun a0 a1 a2 a4 =>
      comp_allM s.found fun q hq => ⟨_, rfl, by
        have hs : setE [a0, a1, a2, .un, a4] [(3, q.u)] = [a0, a1, a2, .val q.u, a4] := rfl
        rw [hs]
        have i3 : ix2 q.u (.int 3) = some (.tup (q.rows.map Row.u)) := rfl
        have lq : q.rows.length ≤ 16777216 := by have := fr q hq; omega
        have ln : lenN [.tup (q.rows.map Row.u)] = some (.int (q.rows.length : Int)) := by simp [lq]
        generalize q.u = QU at *
        generalize U.tup (q.rows.map Row.u) = TR at *
        simp [i3, ln]⟩
    have fa : (s.found.map fun p => U.int p.rows.length).all flatU = true := by
      rw [List.all_eq_true]
      intro u hu
      obtain ⟨w, _, rfl⟩ := List.mem_map.mp hu
      rfl
    have fa' : ∀ u ∈ (s.found.map fun p => U.int p.rows.length), flatU u = true := fun u hu => List.all_eq_true.mp fa u hu
    have ve : ∀ (s0 s1 s2 s4 : Sl), ∃ b0 b1 b2 b4, wipeE (viewE [s0, s1, s2, .un, s4]) [3] = [b0, b1, b2, .un, b4] := fun s0 s1 s2 s4 => ⟨_, _, _, _, rfl⟩
    obtain ⟨b0, b1, b2, b4, veq⟩ := ve (.val (.str TT)) (.val (.ref f)) (.val .non) .un
    rw [show toldU (.inl s) = .lst (s.found.map fun p => U.int p.rows.length) from rfl]
    unfold f_l_told b_l_told
    generalize f_read_book = fb at *
    generalize (s.found.map fun p => U.int p.rows.length) = NM at *
    generalize s.found.map Piece.u = DU at *
    simp [e1, isr, hf, dz, nb, veq, cm, noEx, fa, if_pos fa']
/-- what is no text -/
theorem told_no {u : U} {t : String} (ht : tyU u = some t) (hs : t ≠ "str") (st : Store) : f_l_told [u] st = .ok (.int 0) st := by
  have tb : tabB [(nT, true)] nT = some true := by decide +kernel
  have isn : is2 .non .non = some (.bl true) := rfl
  have iz : isiN [u, .ty "str"] = some (.bl false) := by rw [isi_ev ht (by decide)]; simp [isB, hs]
  have e1 : f_read_book [u] st = .ex nT [(fRw, .int 0)] st := by
    unfold f_read_book b_read_book f_read_pieces b_read_pieces
    simp [iz, flatU]
  have lk : List.lookup fRw [(fRw, U.int 0)] = some (.int 0) := by simp
  unfold f_l_told b_l_told
  generalize f_read_book = fb at *
  simp [e1, tb, lk, isn]
end T_allcallers_k13_ends_and_bounds
namespace T_allcallers_k13_ends_and_bounds
open PySem L2 D C TX TL
theorem learn_inv {s s1 : AS} {ws : List Str} {a : Int} (h : learnS s ws a = .inl s1) : s1.found = s.found ∧ s1.beg = s.beg ∧ s1.lines = s.lines ∧ s1.known = ws.foldl addK s.known ∧ s1.known.length ≤ 8 := by
  unfold learnS at h
  split at h
  · rename_i q
    cases h
    exact ⟨rfl, rfl, rfl, rfl, q⟩
  · cases h
noncomputable def hdL (p : Piece) : Line := ⟨Txt.join sp (headW p), fun s a => headO s (some p) a⟩
def rwL (r : Row) : Line := ⟨rowT r, fun s a => rowO s (some r) a⟩
def noL (x : Str) : Line := ⟨x, fun _ a => .inr a⟩
theorem hdL_ok {p : Piece} (hp : p.ok = true) : LOk (hdL p) := by
  have hP := (pok_iff p).mp hp
  have hw : headW p = Str.ofString "piece" :: (p.name :: (p.params ++ bang :: p.own)) := by unfold headW; simp
  constructor
  · intro S0 m s st a hx hi
    have spl : Txt.split (Txt.join sp (headW p)) (Str.ofString " ") = headW p := split_sp (by unfold headW; simp) (head_okC hp)
    have sl : (Txt.join sp (headW p)).length + 2 ≤ 16777216 := by have := headT_len hp; omega
    refine take_head_res hx hi.1 (Txt.join sp (headW p)) (p.name :: (p.params ++ bang :: p.own)) (spl.trans hw) sl (some p) (fun st => ?_) (fun q hq => ?_) a
    · have := head_of_ev hp st
      rw [hw] at this
      exact this
    · cases hq; have := leaves_len hP.own; omega
  · intro s s1 a hi h
    have h : headO s (some p) a = .inl s1 := h
    unfold headO at h
    cases he : endS s a with
    | inr e => rw [he] at h; cases h
    | inl s2 =>
      rw [he] at h
      simp only at h
      have hf : s.found.length < 12 ∨ s.beg = none := by
        by_cases q : s.beg = none
        · exact .inr q
        · have := hi.2.1 q; exact .inl (by omega)
      obtain ⟨ok2, hb2⟩ := ok_end hi.1 he hf
      have er := end_rows hi he
      split at h
      · cases h
      · rename_i hn
        have n12 : ¬ s2.found.length = 12 := fun z => hn (.inr z)
        obtain ⟨g1, g2, g3, g4, g5⟩ := learn_inv h
        have f2 := ok2.fl
        refine ⟨⟨by rw [g1]; exact f2, g5, by rw [g3]; exact ok2.ll, by rw [g3]; exact ok2.rows, fun q hq => ?_⟩, fun _ => by rw [g1]; show s2.found.length ≤ 11; omega, by rw [g1]; exact er.2⟩
        rw [g2] at hq
        have hq : some p = some q := hq
        cases hq
        exact ⟨hP.name, hP.own, hP.params, hP.nodup⟩
theorem row_inv {r : Row} (hr : r.ok = true) (s s1 : AS) (a : Int) (hi : AI s) (h : rowO s (some r) a = .inl s1) : AI s1 := by
  have h : rowS s r a = .inl s1 := h
  unfold rowS at h
  split at h
  · cases h
  · rename_i hn
    cases hl : learnS s r.leaves a with
    | inr e => rw [hl] at h; cases h
    | inl s2 =>
      rw [hl] at h
      cases h
      obtain ⟨g1, g2, g3, g4, g5⟩ := learn_inv hl
      have n60 : ¬ s.lines.length = 60 := fun z => hn (.inr z)
      have ll := hi.1.ll
      refine ⟨⟨by show s2.found.length ≤ 12; rw [g1]; exact hi.1.fl, g5, by show (s2.lines ++ [r]).length ≤ 60; rw [g3]; simp; omega, fun x hx => ?_, fun q hq => hi.1.bg q (by rw [← g2]; exact hq)⟩, fun hb => by show s2.found.length ≤ 11; rw [g1]; exact hi.2.1 (by rw [← g2]; exact hb), fun p hp => hi.2.2 p (by rw [← g1]; exact hp)⟩
      have hx : x ∈ s2.lines ++ [r] := hx
      rw [g3] at hx
      rcases List.mem_append.mp hx with q | q
      · exact hi.1.rows x q
      · rw [List.mem_singleton.mp q]; exact hr
theorem rwL_ok {r : Row} (hr : Fit r) : LOk (rwL r) := by
  have wp := wd_pt r
  have spl : Txt.split (rowT r) (Str.ofString " ") = wd r := split_sp (by rw [wp]; simp) (wd_okC hr.ok)
  have sl : (rowT r).length + 2 ≤ 16777216 := by have := rowT_len hr; omega
  have np : ¬ kw r = Str.ofString "piece" := by cases r <;> (simp only [kw]; decide +kernel)
  constructor
  · intro S0 m s st a hx hi
    refine take_row_res hx hi.1 _ (kw r) _ (by rw [spl]; exact wp) np sl (some r) (fun st => ?_) (fun q hq => by cases hq; exact hr.ok) a
    have := row_of_ev hr st
    rw [wp] at this
    exact this
  · exact fun s s1 a hi h => row_inv hr.ok s s1 a hi h
/-- a row that is none -/
theorem noL_ok (x w0 : Str) (ws : List Str) (spl : Txt.split x (Str.ofString " ") = w0 :: ws) (np : ¬ w0 = Str.ofString "piece") (nt : tabAt tab_PARTS w0 = none) (sl : x.length + 2 ≤ 16777216) : LOk (noL x) := by
  constructor
  · intro S0 m s st a hx hi
    refine take_row_res hx hi.1 x w0 ws spl np sl none (fun st => ⟨[], ?_⟩) (fun q hq => nomatch hq) a
    have i0 : ix2 (lS (w0 :: ws)) (.int 0) = some (.str w0) := atI_cast _ 0
    have tg : tabGet0 tab_PARTS (.str w0) = some .non := by
      show some ((tabAt tab_PARTS w0).getD U.non) = _
      rw [nt]; rfl
    have isn : is2 .non .non = some (.bl true) := rfl
    unfold f_row_of b_row_of
    generalize lS (w0 :: ws) = LW at *
    simp [i0, tg, isn, rowU]
  · exact fun s s1 a hi h => by cases h
end T_allcallers_k13_ends_and_bounds
namespace T_allcallers_k13_ends_and_bounds
open PySem L2 D C TX TL
structure LK (L : Line) : Prop where
  ok : LOk L
  nl : 10 ∉ TL.tl L.T
theorem split_lines {Ls : List Line} (h : Ls ≠ []) (hn : ∀ L ∈ Ls, LK L) : Txt.split (Txt.join TX.nl (Ls.map Line.T)) (Str.ofString "\n") = Ls.map Line.T :=
  TL.split_join (s := 10) (S := []) tl_nl (by decide +kernel) (fun z => h (List.map_eq_nil_iff.mp z)) fun l hl => by
    obtain ⟨L, hL, rfl⟩ := List.mem_map.mp hl
    exact (hn L hL).nl
theorem told_lines {Ls : List Line} (h : Ls ≠ []) (hz : Ls.length ≤ 1000) (hn : ∀ L ∈ Ls, LK L) (sl : (Txt.join TX.nl (Ls.map Line.T)).length + 2 ≤ 16777216) (st : Store) : ∃ st', f_l_told [.str (Txt.join TX.nl (Ls.map Line.T))] st = .ok (toldU (readS Ls)) st' ∧ Pre st st' :=
  told_res _ Ls (split_lines h hn) sl hz (fun L hL => (hn L hL).ok) st
theorem hdL_k {p : Piece} (hp : p.ok = true) : LK (hdL p) := ⟨hdL_ok hp, line_nl (head_okC hp)⟩
theorem rwL_k {r : Row} (hr : Fit r) : LK (rwL r) := ⟨rwL_ok hr, line_nl (wd_okC hr.ok)⟩
/-- a head that is none -/
noncomputable def bhL (x : Str) : Line := ⟨x, fun s a => headO s none a⟩
theorem bhL_ok (x w : Str) (spl : Txt.split x (Str.ofString " ") = [Str.ofString "piece", w]) (hw : isWordS w = true) (sl : x.length + 2 ≤ 16777216) : LOk (bhL x) := by
  have hb : bang ≠ w := fun e => word_bang hw e.symm
  constructor
  · intro S0 m s st a hx hi
    refine take_head_res hx hi.1 x [w] spl sl none (fun st => ?_) (fun p h => nomatch h) a
    have e0 : sl3 (lS [Str.ofString "piece", w]) (some 2) none = some (.lst []) := rfl
    have i0 : ix2 (lS [Str.ofString "piece", w]) (.int 0) = some (.str (Str.ofString "piece")) := rfl
    have l2 : lenN [lS [Str.ofString "piece", w]] = some (.int 2) := rfl
    have fp : f_parted [.lst []] st = .ok .non st := rfl
    have isn : is2 .non .non = some (.bl true) := rfl
    unfold f_head_of b_head_of
    generalize lS [Str.ofString "piece", w] = LW at *
    generalize f_parted = fp' at *
    simp [e0, i0, l2, fp, isn, bgU]
  · intro s s1 a hi h
    have h : headO s none a = .inl s1 := h
    unfold headO at h
    cases he : endS s a with
    | inr e => rw [he] at h; cases h
    | inl s2 => rw [he] at h; cases h
abbrev far : Int := 1000000000000000000000000000000
theorem number_far (st : Store) : f_number_of [.str (num far)] st = .ok (.int far) st :=
  number_core (num far) 1000000000000000000000000000000 (tl_num' _) (by decide +kernel) (by decide +kernel) st
theorem pop_far : Pop (pO far) (num far) := ⟨out_O far, nOA, nOL, fun st => by
  have e := number_far st
  have n0 : ¬ Str.ofString "over" = Str.ofString "number" := by decide +kernel
  have n1 : wOver = Str.ofString "over" := rfl
  show f_part_of [.str wOver, .str (num far)] st = .ok (.int far) st
  rw [n1]
  unfold f_part_of b_part_of
  generalize num far = NF at *
  simp [e, n0]⟩
theorem rwL_far {r : Row} (hd : Rd r) (hok : r.ok = true) (sl : (rowT r).length ≤ 1000) : LK (rwL r) := by
  have wp := wd_pt r
  have spl : Txt.split (rowT r) (Str.ofString " ") = wd r := split_sp (by rw [wp]; simp) (wd_okC hok)
  have np : ¬ kw r = Str.ofString "piece" := by cases r <;> (simp only [kw]; decide +kernel)
  refine ⟨⟨fun S0 m s st a hx hi => ?_, fun s s1 a hi h => row_inv hok s s1 a hi h⟩, line_nl (wd_okC hok)⟩
  refine take_row_res hx hi.1 (rowT r) (kw r) _ (by rw [spl]; exact wp) np (by omega) (some r) (fun st => ?_) (fun q hq => by cases hq; exact hok) a
  have := row_of_gen hd hok st
  rw [wp] at this
  exact this
end T_allcallers_k13_ends_and_bounds
namespace T_allcallers_k13_ends_and_bounds
open PySem L2 D C TX TL
def KOk (R ks : List Str) : Prop := ks.Nodup ∧ ∀ x ∈ ks, x ∈ R
theorem fold_ok {R : List Str} : ∀ (ws ks : List Str), KOk R ks → (∀ w ∈ ws, w ∈ R) → KOk R (ws.foldl addK ks)
  | [], ks, h, _ => h
  | w :: ws, ks, h, hw => by
    rw [List.foldl_cons]
    exact fold_ok ws _ (addK_ok w h.1 h.2 (hw w (List.mem_cons_self ..))) fun x hx => hw x (List.mem_cons_of_mem _ hx)
theorem kok_len {R ks : List Str} (hR : R.length ≤ 8) (h : KOk R ks) : ks.length ≤ 8 := Nat.le_trans (G1.nodup_len ks R h.1 h.2) hR
theorem row_step {R : List Str} (hR : R.length ≤ 8) {s : AS} (hb : s.beg ≠ none) (hk : KOk R s.known) {r : Row} (hw : ∀ w ∈ r.leaves, w ∈ R) (i : Int) :
    rowO s (some r) i = if s.lines.length = 60 then .inr i else .inl {s with lines := s.lines ++ [r], known := r.leaves.foldl addK s.known} := by
  show rowS s r i = _
  unfold rowS
  by_cases q : s.lines.length = 60
  · rw [if_pos (.inr q), if_pos q]
  · have k := fold_ok r.leaves s.known hk hw
    rw [if_neg (fun z => z.elim hb q), if_neg q]
    unfold learnS
    rw [if_pos (kok_len hR k)]
theorem run_rows {R : List Str} (hR : R.length ≤ 8) : ∀ (rs : List Row) (s : AS) (i : Int), s.beg ≠ none → KOk R s.known → s.lines.length ≤ 60 → (∀ r ∈ rs, ∀ w ∈ r.leaves, w ∈ R) →
    if s.lines.length + rs.length ≤ 60 then ∃ ks, run s i (rs.map rwL) = .inl {s with lines := s.lines ++ rs, known := ks} ∧ KOk R ks else run s i (rs.map rwL) = .inr (i + (60 - s.lines.length))
  | [], s, i, _, hk, hl, _ => by
    rw [if_pos (by simpa using hl)]
    exact ⟨s.known, by show Sum.inl s = _; rw [List.append_nil], hk⟩
  | r :: rs, s, i, hb, hk, hl, hw => by
    have hs := row_step hR hb hk (hw r (List.mem_cons_self ..)) i
    have hrun : run s i ((r :: rs).map rwL) = match rowO s (some r) i with
      | .inr e => .inr e
      | .inl s1 => run s1 (i + 1) (rs.map rwL) := rfl
    rw [hrun, hs]
    by_cases q : s.lines.length = 60
    · rw [if_pos q, if_neg (by rw [List.length_cons]; omega)]
      show Sum.inr i = Sum.inr _
      congr 1; omega
    · rw [if_neg q]
      have ih := run_rows hR rs {s with lines := s.lines ++ [r], known := r.leaves.foldl addK s.known} (i + 1) hb (fold_ok _ _ hk (hw r (List.mem_cons_self ..))) (by show (s.lines ++ [r]).length ≤ 60; simp; omega) fun x hx => hw x (List.mem_cons_of_mem _ hx)
      have e1 : (s.lines ++ [r]).length = s.lines.length + 1 := by simp
      simp only [e1] at ih
      rw [List.length_cons]
      by_cases c : s.lines.length + 1 + rs.length ≤ 60
      · rw [if_pos c] at ih
        rw [if_pos (by omega)]
        obtain ⟨ks, e, hk2⟩ := ih
        refine ⟨ks, ?_, hk2⟩
        show run {s with lines := s.lines ++ [r], known := r.leaves.foldl addK s.known} (i + 1) (rs.map rwL) = _
        rw [e, List.append_assoc]; rfl
      · rw [if_neg c] at ih
        rw [if_neg (by omega)]
        show run {s with lines := s.lines ++ [r], known := r.leaves.foldl addK s.known} (i + 1) (rs.map rwL) = _
        rw [ih]
        congr 1; omega
theorem run_app : ∀ (As Bs : List Line) (s : AS) (i : Int), run s i (As ++ Bs) = match run s i As with
    | .inr e => .inr e
    | .inl s1 => run s1 (i + As.length) Bs
  | [], Bs, s, i => by show run s i Bs = run s (i + ((0 : Nat) : Int)) Bs; congr 1; omega
  | A :: As, Bs, s, i => by
    have h1 : run s i ((A :: As) ++ Bs) = match A.act s i with
      | .inr e => .inr e
      | .inl s1 => run s1 (i + 1) (As ++ Bs) := rfl
    have h2 : run s i (A :: As) = match A.act s i with
      | .inr e => .inr e
      | .inl s1 => run s1 (i + 1) As := rfl
    rw [h1, h2]
    cases A.act s i with
    | inr e => rfl
    | inl s1 =>
      simp only
      rw [run_app As Bs s1 (i + 1), List.length_cons]
      cases run s1 (i + 1) As with
      | inr e => rfl
      | inl s2 =>
        simp only
        congr 1; omega
end T_allcallers_k13_ends_and_bounds
namespace T_allcallers_k13_ends_and_bounds
open PySem L2 D C TX TL
theorem stands_at {rows : List Row} (hr : ∀ r ∈ rows, r.ok = true) {k : Nat} (hk : k < rows.length) : stands (rows.map Row.u) k = decide ((k : Int) + 1 + (rows[k]).goes ≤ rows.length) := by
  have hk' : k < (rows.map Row.u).length := by simpa using hk
  unfold stands
  rw [getD_of (List.getElem?_eq_getElem hk'), List.getElem_map, goesU_row, row_back, hr _ (List.getElem_mem hk)]
  simp
theorem bad_of {rows : List Row} (hr : ∀ r ∈ rows, r.ok = true) : (∀ k (h : k < rows.length), (k : Int) + 1 + (rows[k]).goes ≤ rows.length) → badAt (rows.map Row.u) = none := by
  intro h
  unfold badAt
  rw [List.find?_eq_none]
  intro k hk
  have hk : k < rows.length := by simpa using hk
  rw [stands_at hr hk]
  simp [h k hk]
theorem bad_at {rows : List Row} (hr : ∀ r ∈ rows, r.ok = true) {k : Nat} (hk : k < rows.length) (h1 : ∀ j (h : j < rows.length), j < k → (j : Int) + 1 + (rows[j]).goes ≤ rows.length) (h2 : ¬ (k : Int) + 1 + (rows[k]).goes ≤ rows.length) : badAt (rows.map Row.u) = some k := by
  unfold badAt
  rw [List.length_map, List.find?_range_eq_some]
  refine ⟨?_, List.mem_range.mpr hk, fun j hj => ?_⟩
  · rw [stands_at hr hk]; simp [h2]
  · have hj' : j < rows.length := by omega
    rw [stands_at hr hj']; simp [h1 j hj' hj]
/-- counts, one of them exchanged -/
def oneR (n at_ : Nat) (r : Row) : List Row := (List.replicate n Row.count).set at_ r
theorem one_len (n at_ : Nat) (r : Row) : (oneR n at_ r).length = n := by unfold oneR; simp
theorem one_ok (n at_ : Nat) {r : Row} (hr : r.ok = true) : ∀ x ∈ oneR n at_ r, x.ok = true := fun x hx => by
  rcases List.mem_or_eq_of_mem_set hx with h | rfl
  · rw [List.eq_of_mem_replicate h]; rfl
  · exact hr
theorem one_get (n at_ : Nat) (r : Row) {k : Nat} (hk : k < (oneR n at_ r).length) : (oneR n at_ r)[k] = if at_ = k then r else .count := by
  have e : (oneR n at_ r)[k]? = some (if at_ = k then r else .count) := by
    have hk' : k < n := by rw [one_len] at hk; exact hk
    unfold oneR
    rw [List.getElem?_set]
    by_cases q : at_ = k
    · subst q; simp [hk']
    · rw [if_neg q, if_neg q, List.getElem?_replicate, if_pos hk']
  rw [List.getElem?_eq_getElem hk] at e
  exact Option.some.inj e
theorem bad_one (n at_ : Nat) (h : at_ < n) {r : Row} (hr : r.ok = true) : badAt ((oneR n at_ r).map Row.u) = if (at_ : Int) + 1 + r.goes ≤ n then none else some at_ := by
  have hl := one_len n at_ r
  by_cases c : (at_ : Int) + 1 + r.goes ≤ n
  · rw [if_pos c]
    refine bad_of (one_ok n at_ hr) fun k hk => ?_
    rw [one_get n at_ r hk, hl]
    split
    · rename_i e; subst e; exact c
    · show (k : Int) + 1 + 0 ≤ n; omega
  · rw [if_neg c]
    refine bad_at (one_ok n at_ hr) (by rw [hl]; exact h) (fun j hj hjk => ?_) ?_
    · rw [one_get n at_ r hj, hl, if_neg (by omega)]
      show (j : Int) + 1 + 0 ≤ n; omega
    · rw [one_get n at_ r (by rw [hl]; exact h), hl, if_pos rfl]
      exact c
end T_allcallers_k13_ends_and_bounds
namespace T_allcallers_k13_ends_and_bounds
open PySem L2 D C TX TL
def abcS : Str := Str.ofString "abcdefghijklmnopqrstuvwxyz"
def wordN (n : Nat) : Str := (⟨#[97 + n % 26]⟩ : Str) ++ Txt.mul ⟨#[97 + n / 26 % 26]⟩ ((n % 7 : Nat) : Int)
theorem word_facts : ∀ n < 700, isWordS (wordN n) = true ∧ (wordN n).cps[0]? = some (97 + n % 26) ∧ ((⟨#[97 + n % 26]⟩ : Str).length + (Txt.mul ⟨#[97 + n / 26 % 26]⟩ ((n % 7 : Nat) : Int)).length ≤ 16777216) := by decide +kernel
theorem letter_at : ∀ n < 26, ix2 (.str abcS) (.int ((n : Nat) : Int)) = some (.str ⟨#[97 + n]⟩) := by
  intro n hn
  have : n = 0 ∨ n = 1 ∨ n = 2 ∨ n = 3 ∨ n = 4 ∨ n = 5 ∨ n = 6 ∨ n = 7 ∨ n = 8 ∨ n = 9 ∨ n = 10 ∨ n = 11 ∨ n = 12 ∨ n = 13 ∨ n = 14 ∨ n = 15 ∨ n = 16 ∨ n = 17 ∨ n = 18 ∨ n = 19 ∨ n = 20 ∨ n = 21 ∨ n = 22 ∨ n = 23 ∨ n = 24 ∨ n = 25 := by omega
  rcases this with rfl | rfl | rfl | rfl | rfl | rfl | rfl | rfl | rfl | rfl | rfl | rfl | rfl | rfl | rfl | rfl | rfl | rfl | rfl | rfl | rfl | rfl | rfl | rfl | rfl | rfl <;> rfl
theorem word_ev (n : Nat) (h : n < 700) (st : Store) : f_l_word [.int (n : Int)] st = .ok (.str (wordN n)) st := by
  obtain ⟨-, -, hz⟩ := word_facts n h
  have md : ∀ a m : Nat, 0 < m → mod2 (.int (a : Int)) (.int (m : Int)) = some (.int ((a % m : Nat) : Int)) := fun a m h => by
    show (if _ then _ else _) = _
    rw [if_pos (by omega), Int.natCast_emod]
  have fd : fdiv2 (.int (n : Int)) (.int 26) = some (.int ((n / 26 : Nat) : Int)) := by
    show (if (0 : Int) < 26 ∧ (26 : Int) < 1073741824 then some (U.int ((n : Int) / 26)) else none) = _
    rw [if_pos ⟨by decide, by decide⟩, Int.natCast_ediv]; rfl
  have m1 : mod2 (.int (n : Int)) (.int 26) = some (.int ((n % 26 : Nat) : Int)) := md n 26 (by decide)
  have m2 : mod2 (.int ((n / 26 : Nat) : Int)) (.int 26) = some (.int ((n / 26 % 26 : Nat) : Int)) := md (n / 26) 26 (by decide)
  have m3 : mod2 (.int (n : Int)) (.int 7) = some (.int ((n % 7 : Nat) : Int)) := md n 7 (by decide)
  have l1 := letter_at (n % 26) (by omega)
  have l2 := letter_at (n / 26 % 26) (by omega)
  have ms : mulS2 (.str ⟨#[97 + n / 26 % 26]⟩) (.int ((n % 7 : Nat) : Int)) = some (.str (Txt.mul ⟨#[97 + n / 26 % 26]⟩ ((n % 7 : Nat) : Int))) := by
    rw [mulS_ap, if_pos ⟨by omega, by omega, (by show 1 ≤ 1000; decide)⟩]
  have ad : add2 (.str ⟨#[97 + n % 26]⟩) (.str (Txt.mul ⟨#[97 + n / 26 % 26]⟩ ((n % 7 : Nat) : Int))) = some (.str (wordN n)) := by
    have hz' : (⟨#[97 + n % 26]⟩ : Str).length + (Txt.mul ⟨#[97 + n / 26 % 26]⟩ ((n % 7 : Nat) : Int)).length ≤ sizeLine := by rw [sizeLine_val]; exact hz
    exact if_pos hz'
  unfold f_l_word b_l_word
  unfold abcS at l1 l2
  generalize U.str (Str.ofString "abcdefghijklmnopqrstuvwxyz") = AB at *
  generalize ((n % 26 : Nat) : Int) = q1 at *
  generalize ((n / 26 : Nat) : Int) = q2 at *
  generalize ((n / 26 % 26 : Nat) : Int) = q3 at *
  generalize ((n % 7 : Nat) : Int) = q4 at *
  simp [m1, m2, m3, fd, l1, l2, ms, ad, -mod_int, -fdiv_int, -mulS_ap]
end T_allcallers_k13_ends_and_bounds
namespace T_allcallers_k13_ends_and_bounds
open PySem L2 D C TX TL
def pc (x : Str) : Piece := ⟨x, [], [], [.on]⟩
noncomputable def two (x : Str) : List Line := [hdL (pc x), rwL .on]
noncomputable def twos (xs : List Str) : List Line := (xs.map two).flatten
def mid (xs : List Str) (x : Str) : AS := ⟨xs.map pc, some (pc x), [.on], []⟩
theorem run_cons (s : AS) (i : Int) (L : Line) (Ls : List Line) : run s i (L :: Ls) = match L.act s i with
    | .inr e => .inr e
    | .inl s1 => run s1 (i + 1) Ls := rfl
theorem on_bad : badAt ([Row.on].map Row.u) = none := bad_of (rows := [.on]) (fun r hr => by rw [List.mem_singleton.mp hr]; rfl) fun k hk => by
  have : k = 0 := by simpa using hk
  subst this
  show ((0 : Nat) : Int) + 1 + 0 ≤ ((1 : Nat) : Int)
  decide
theorem end_mid (xs : List Str) (x : Str) (i : Int) : endS (mid xs x) i = .inl ⟨(xs ++ [x]).map pc, some (pc x), [], []⟩ := by
  unfold endS mid
  simp only [List.cons_ne_nil, if_false, on_bad]
  rw [List.map_append]; rfl
theorem names_pc (xs : List Str) : (xs.map pc).map Piece.name = xs := by
  rw [List.map_map]
  exact List.map_id'' (fun _ => rfl) xs
theorem head_mid (xs : List Str) (x y : Str) (i : Int) : (hdL (pc y)).act (mid xs x) i = if y ∈ xs ++ [x] ∨ (xs ++ [x]).length = 12 then .inr i else .inl ⟨(xs ++ [x]).map pc, some (pc y), [], []⟩ := by
  show headO (mid xs x) (some (pc y)) i = _
  unfold headO
  rw [end_mid]
  simp only [names_pc, List.length_map]
  rw [show (pc y).name = y from rfl]
  by_cases q : y ∈ xs ++ [x] ∨ (xs ++ [x]).length = 12
  · rw [if_pos q, if_pos q]
  · rw [if_neg q, if_neg q]; rfl
theorem on_mid (f : List Piece) (y : Str) (i : Int) : (rwL .on).act ⟨f, some (pc y), [], []⟩ i = .inl ⟨f, some (pc y), [.on], []⟩ := by
  show rowS ⟨f, some (pc y), [], []⟩ .on i = _
  unfold rowS
  rw [if_neg (by simp)]
  rfl
theorem run_two (xs : List Str) (x y : Str) (i : Int) (Ls : List Line) : run (mid xs x) i (two y ++ Ls) = if y ∈ xs ++ [x] ∨ (xs ++ [x]).length = 12 then .inr i else run (mid (xs ++ [x]) y) (i + 2) Ls := by
  show run (mid xs x) i (hdL (pc y) :: rwL .on :: Ls) = _
  rw [run_cons, head_mid]
  by_cases q : y ∈ xs ++ [x] ∨ (xs ++ [x]).length = 12
  · rw [if_pos q, if_pos q]
  · rw [if_neg q, if_neg q]
    simp only
    rw [run_cons, on_mid]
    simp only
    rw [show i + 1 + 1 = i + 2 by omega]; rfl
theorem run_first (x : Str) (Ls : List Line) : run s0 0 (two x ++ Ls) = run (mid [] x) 2 Ls := by
  show run s0 0 (hdL (pc x) :: rwL .on :: Ls) = _
  rw [run_cons, show (hdL (pc x)).act s0 0 = .inl ⟨[], some (pc x), [], []⟩ from rfl]
  simp only
  rw [run_cons, on_mid]
  rfl
theorem twos_cons (y : Str) (ys : List Str) : twos (y :: ys) = two y ++ twos ys := rfl
theorem twos_len : ∀ xs : List Str, (twos xs).length = 2 * xs.length
  | [] => rfl
  | x :: xs => by rw [twos_cons, List.length_append, twos_len xs, List.length_cons]; show 2 + _ = _; omega
theorem run_good : ∀ (ys xs : List Str) (x : Str) (i : Int), (xs ++ x :: ys).Nodup → (xs ++ x :: ys).length ≤ 12 → ∃ xs' x', xs' ++ [x'] = xs ++ x :: ys ∧ run (mid xs x) i (twos ys) = .inl (mid xs' x')
  | [], xs, x, i, _, _ => ⟨xs, x, rfl, rfl⟩
  | y :: ys, xs, x, i, hn, hl => by
    have e : xs ++ x :: y :: ys = (xs ++ [x]) ++ y :: ys := by simp
    rw [e] at hn hl
    obtain ⟨xs', x', h1, h2⟩ := run_good ys (xs ++ [x]) y (i + 2) hn hl
    refine ⟨xs', x', by rw [h1, e], ?_⟩
    rw [twos_cons, run_two, if_neg, h2]
    rintro (q | q)
    · exact (List.nodup_append.mp hn).2.2 y q y (List.mem_cons_self ..) rfl
    · rw [List.length_append, q, List.length_cons] at hl; omega
theorem run_bad (y : Str) (zs : List Str) : ∀ (ys xs : List Str) (x : Str) (i : Int), (xs ++ x :: ys).Nodup → (xs ++ x :: ys).length ≤ 12 → (y ∈ xs ++ x :: ys ∨ (xs ++ x :: ys).length = 12) → run (mid xs x) i (twos (ys ++ y :: zs)) = .inr (i + 2 * (ys.length : Int))
  | [], xs, x, i, _, _, h => by
    rw [List.nil_append, twos_cons, run_two, if_pos h]
    simp
  | w :: ys, xs, x, i, hn, hl, h => by
    have e : xs ++ x :: w :: ys = (xs ++ [x]) ++ w :: ys := by simp
    rw [e] at hn hl h
    rw [List.cons_append, twos_cons, run_two, if_neg, run_bad y zs ys (xs ++ [x]) w (i + 2) hn hl h, List.length_cons]
    · congr 1; omega
    · rintro (q | q)
      · exact (List.nodup_append.mp hn).2.2 w q w (List.mem_cons_self ..) rfl
      · rw [List.length_append, q, List.length_cons] at hl; omega
/-- what is told of pieces of one row -/
theorem told_good {xs : List Str} (h0 : xs ≠ []) (hn : xs.Nodup) (hl : xs.length ≤ 12) : toldU (readS (twos xs)) = .lst (xs.map fun _ => U.int 1) := by
  cases xs with
  | nil => exact absurd rfl h0
  | cons x ys =>
    obtain ⟨xs', x', h1, h2⟩ := run_good ys [] x 2 hn hl
    unfold readS
    rw [twos_cons, run_first, h2]
    simp only
    rw [end_mid, h1]
    unfold toldU
    simp only [List.map_map, List.nil_append]
    rfl
theorem told_bad {ys zs : List Str} {y : Str} (h0 : ys ≠ []) (hn : ys.Nodup) (hl : ys.length ≤ 12) (h : y ∈ ys ∨ ys.length = 12) : toldU (readS (twos (ys ++ y :: zs))) = .int (2 * (ys.length : Int)) := by
  cases ys with
  | nil => exact absurd rfl h0
  | cons x ys =>
    have r := run_bad y zs ys [] x 2 hn hl h
    unfold readS
    rw [List.cons_append, twos_cons, run_first, r]
    unfold toldU
    rw [List.length_cons]
    simp only
    congr 1; omega
end T_allcallers_k13_ends_and_bounds
namespace T_allcallers_k13_ends_and_bounds
open PySem L2 D C TX TL
abbrev sa : Str := Str.ofString "a"
abbrev sb : Str := Str.ofString "b"
noncomputable def rowsL (n at_ : Nat) (r : Row) : List Line := hdL (pc sa) :: (oneR n at_ r).map rwL
theorem rowsL_len (n at_ : Nat) (r : Row) : (rowsL n at_ r).length = n + 1 := by
  unfold rowsL; rw [List.length_cons, List.length_map, one_len]
structure RowA (r : Row) : Prop where
  k : LK (rwL r)
  ok : r.ok = true
  lv : ∀ w ∈ r.leaves, w ∈ [sb]
theorem one_lv (n at_ : Nat) {r : Row} (hr : ∀ w ∈ r.leaves, w ∈ [sb]) : ∀ x ∈ oneR n at_ r, ∀ w ∈ x.leaves, w ∈ [sb] := fun x hx => by
  rcases List.mem_or_eq_of_mem_set hx with h | rfl
  · rw [List.eq_of_mem_replicate h]; exact fun w hw => nomatch hw
  · exact hr
theorem rows_run (n at_ : Nat) {r : Row} (hr : RowA r) : if n ≤ 60 then ∃ ks, run s0 0 (rowsL n at_ r) = .inl ⟨[], some (pc sa), oneR n at_ r, ks⟩ ∧ KOk [sb] ks else run s0 0 (rowsL n at_ r) = .inr 61 := by
  have h := run_rows (R := [sb]) (by decide) (oneR n at_ r) ⟨[], some (pc sa), [], []⟩ 1 (by simp) ⟨List.nodup_nil, fun _ z => nomatch z⟩ (by decide) (one_lv n at_ hr.lv)
  have e : run s0 0 (rowsL n at_ r) = run ⟨[], some (pc sa), [], []⟩ 1 ((oneR n at_ r).map rwL) := rfl
  rw [e]
  have l0 : (⟨[], some (pc sa), [], []⟩ : AS).lines.length + (oneR n at_ r).length = n := by rw [one_len]; show 0 + n = n; omega
  rw [l0] at h
  split
  · rename_i q
    rw [if_pos q] at h
    exact h
  · rename_i q
    rw [if_neg q] at h
    exact h
theorem one_ne {n at_ : Nat} (h : at_ < n) (r : Row) : oneR n at_ r ≠ [] := fun z => by
  have := one_len n at_ r
  rw [z] at this
  exact absurd this (by simp; omega)
theorem one_end {n at_ : Nat} (h : at_ < n) {r : Row} (hr : r.ok = true) (ks : List Str) (i : Int) : endS ⟨[], some (pc sa), oneR n at_ r, ks⟩ i = if (at_ : Int) + 1 + r.goes ≤ n then .inl ⟨[{pc sa with rows := oneR n at_ r}], some (pc sa), [], ks⟩ else .inr (i - n + at_) := by
  unfold endS
  simp only [if_neg (one_ne h r), bad_one n at_ h hr, one_len]
  by_cases q : (at_ : Int) + 1 + r.goes ≤ n
  · simp only [if_pos q]; rfl
  · simp only [if_neg q]
theorem told_far {n at_ : Nat} {r : Row} (hr : RowA r) (hn : 60 < n) (S : List Line) : toldU (readS (rowsL n at_ r ++ S)) = .int 61 := by
  have h := rows_run n at_ hr
  rw [if_neg (by omega)] at h
  unfold readS
  rw [run_app, h]; rfl
theorem run_S {n at_ : Nat} {r : Row} (hr : RowA r) (hn : n ≤ 60) : ∃ ks, KOk [sb] ks ∧ ∀ S, run s0 0 (rowsL n at_ r ++ S) = run ⟨[], some (pc sa), oneR n at_ r, ks⟩ ((n : Int) + 1) S := by
  have h := rows_run n at_ hr
  rw [if_pos hn] at h
  obtain ⟨ks, e, hk⟩ := h
  refine ⟨ks, hk, fun S => ?_⟩
  rw [run_app, e, rowsL_len]
  simp only
  congr 1; omega
theorem told_ok {n at_ : Nat} (h : at_ < n) {r : Row} (hr : RowA r) (hn : n ≤ 60) (hg : (at_ : Int) + 1 + r.goes ≤ n) :
    toldU (readS (rowsL n at_ r)) = .lst [.int n] ∧ toldU (readS (rowsL n at_ r ++ [hdL (pc sb), rwL .on])) = .lst [.int n, .int 1] ∧ toldU (readS (rowsL n at_ r ++ [hdL (pc sb)])) = .int (n + 2) := by
  obtain ⟨ks, hk, hS⟩ := run_S (at_ := at_) hr hn
  have hend := fun i => one_end h hr.ok ks i
  simp only [if_pos hg] at hend
  have k8 : ks.length ≤ 8 := kok_len (by decide) hk
  have nab : ¬ (sb ∈ [{pc sa with rows := oneR n at_ r}].map Piece.name ∨ [{pc sa with rows := oneR n at_ r}].length = 12) := by
    have : ¬ sb = sa := by decide +kernel
    simp [pc, this]
  have hb : ∀ i, (hdL (pc sb)).act ⟨[], some (pc sa), oneR n at_ r, ks⟩ i = .inl ⟨[{pc sa with rows := oneR n at_ r}], some (pc sb), [], ks⟩ := fun i => by
    show headO _ (some (pc sb)) i = _
    unfold headO
    rw [hend]
    simp only
    rw [show (pc sb).name = sb from rfl, if_neg nab]
    unfold learnS
    rw [if_pos (by exact k8)]; rfl
  have ho : ∀ i, (rwL .on).act ⟨[{pc sa with rows := oneR n at_ r}], some (pc sb), [], ks⟩ i = .inl ⟨[{pc sa with rows := oneR n at_ r}], some (pc sb), [.on], ks⟩ := fun i => by
    show rowS ⟨[{pc sa with rows := oneR n at_ r}], some (pc sb), [], ks⟩ .on i = _
    unfold rowS
    rw [if_neg (by simp)]
    unfold learnS
    rw [if_pos (by exact k8)]; rfl
  refine ⟨?_, ?_, ?_⟩
  · have e := hS []
    rw [List.append_nil] at e
    unfold readS
    rw [e, show run ⟨[], some (pc sa), oneR n at_ r, ks⟩ ((n : Int) + 1) [] = .inl ⟨[], some (pc sa), oneR n at_ r, ks⟩ from rfl]
    simp only
    rw [hend]
    show U.lst [U.int (oneR n at_ r).length] = _
    rw [one_len]
  · have e := hS [hdL (pc sb), rwL .on]
    unfold readS
    rw [e, run_cons, hb]
    simp only
    rw [run_cons, ho]
    simp only
    rw [show ∀ s i, run s i [] = .inl s from fun _ _ => rfl]
    simp only
    unfold endS
    simp only [on_bad, List.cons_ne_nil, if_false]
    show U.lst [U.int (oneR n at_ r).length, .int 1] = _
    rw [one_len]
  · have e := hS [hdL (pc sb)]
    unfold readS
    rw [e, run_cons, hb]
    simp only
    rw [show ∀ s i, run s i [] = .inl s from fun _ _ => rfl]
    simp only
    unfold endS
    simp only [if_true]
    show U.int _ = _
    rw [List.length_append, rowsL_len]
    congr 1
theorem told_no_good {n at_ : Nat} (h : at_ < n) {r : Row} (hr : RowA r) (hn : n ≤ 60) (hg : ¬ (at_ : Int) + 1 + r.goes ≤ n) :
    toldU (readS (rowsL n at_ r)) = .int (1 + at_) ∧ toldU (readS (rowsL n at_ r ++ [hdL (pc sa)])) = .int (1 + at_) ∧ ∀ x, toldU (readS (rowsL n at_ r ++ [noL x])) = .int (n + 1) := by
  obtain ⟨ks, hk, hS⟩ := run_S (at_ := at_) hr hn
  have hend := fun i => one_end h hr.ok ks i
  simp only [if_neg hg] at hend
  refine ⟨?_, ?_, fun x => ?_⟩
  · have e := hS []
    rw [List.append_nil] at e
    unfold readS
    rw [e, show run ⟨[], some (pc sa), oneR n at_ r, ks⟩ ((n : Int) + 1) [] = .inl ⟨[], some (pc sa), oneR n at_ r, ks⟩ from rfl]
    simp only
    rw [hend, rowsL_len]
    show U.int _ = _
    congr 1; omega
  · have e := hS [hdL (pc sa)]
    unfold readS
    rw [e, run_cons, show (hdL (pc sa)).act ⟨[], some (pc sa), oneR n at_ r, ks⟩ ((n : Int) + 1) = headO ⟨[], some (pc sa), oneR n at_ r, ks⟩ (some (pc sa)) ((n : Int) + 1) from rfl]
    unfold headO
    rw [hend]
    show U.int _ = _
    congr 1; omega
  · have e := hS [noL x]
    unfold readS
    rw [e]; rfl
end T_allcallers_k13_ends_and_bounds
namespace T_allcallers_k13_ends_and_bounds
open PySem L2 D C TX TL
def wsN (first many : Nat) : List Str := (List.range many).map fun k => wordN (first + k)
theorem word_ne {a b : Nat} (ha : a < 700) (hb : b < 700) (h1 : a < b) (h2 : b < a + 26) : wordN a ≠ wordN b := fun e => by
  have fa := (word_facts a ha).2.1
  have fb := (word_facts b hb).2.1
  rw [e, fb] at fa
  have := Option.some.inj fa
  omega
theorem ws_nodup {first many : Nat} (h : first < 600) (hm : many ≤ 13) : (wsN first many).Nodup := by
  unfold wsN List.Nodup
  rw [List.pairwise_map]
  refine List.Pairwise.imp_of_mem (fun {a b} ha hb hab => ?_) List.pairwise_lt_range
  have ha := List.mem_range.mp ha
  have hb := List.mem_range.mp hb
  exact word_ne (by omega) (by omega) (by omega) (by omega)
theorem ws_words {first many : Nat} (h : first < 600) (hm : many ≤ 13) : ∀ w ∈ wsN first many, isWordS w = true := fun w hw => by
  obtain ⟨k, hk, rfl⟩ := List.mem_map.mp hw
  have := List.mem_range.mp hk
  exact (word_facts _ (by omega)).1
theorem ws_len (first many : Nat) : (wsN first many).length = many := by unfold wsN; simp
abbrev sx : Str := Str.ofString "x"
abbrev sy : Str := Str.ofString "y"
def rk (c : Nat) (w : Str) : Row := match c with
  | 0 => .ask w 1
  | 1 => .deed w sx
  | 2 => .done w sx
  | 3 => .call sx sy [] [w]
  | _ => .last sx [] [w]
theorem rk_leaves (c : Nat) (w : Str) : (rk c w).leaves = [w] := by
  unfold rk; split <;> rfl
theorem rk_goes (c : Nat) (w : Str) : (rk c w).goes ≤ 1 ∧ 0 ≤ (rk c w).goes := by
  unfold rk; split <;> simp [Row.goes]
theorem leaf1 {w : Str} (h : isWordS w = true) : leavesS [w] = true := by
  unfold leavesS
  rw [areL_txt [w] (fun x hx => by rw [List.mem_singleton.mp hx]; exact h)]
  have : sortS (dedS [w]) = [w] := by
    have : dedS [w] = [w] := ded_id (List.nodup_cons.mpr ⟨by simp, List.nodup_nil⟩)
    rw [this]; rfl
  rw [this]; simp
theorem rk_ok (c : Nat) {w : Str} (h : isWordS w = true) : (rk c w).ok = true := by
  have hx : isWordS sx = true := by decide +kernel
  have hy : isWordS sy = true := by decide +kernel
  have hl := leaf1 h
  have ha : argsS [] = true := by decide
  unfold rk
  split <;> simp [Row.ok, h, hx, hy, hl, ha]
theorem rk_fit (c : Nat) {w : Str} (h : isWordS w = true) : Fit (rk c w) := ⟨rk_ok c h, by have := (rk_goes c w).1; omega⟩
inductive RsW : List Row → List Str → Prop
  | nil : RsW [] []
  | snoc {rs : List Row} {ws : List Str} (c : Nat) (w : Str) : RsW rs ws → RsW (rs ++ [rk c w]) (ws ++ [w])
theorem RsW.len {rs : List Row} {ws : List Str} (h : RsW rs ws) : rs.length = ws.length := by
  induction h with
  | nil => rfl
  | snoc c w _ ih => simp [ih]
theorem RsW.mem {rs : List Row} {ws : List Str} (h : RsW rs ws) : ∀ r ∈ rs, ∃ c w, w ∈ ws ∧ r = rk c w := by
  induction h with
  | nil => exact fun r hr => nomatch hr
  | snoc c w _ ih =>
    intro r hr
    rcases List.mem_append.mp hr with q | q
    · obtain ⟨c', w', h1, h2⟩ := ih r q
      exact ⟨c', w', List.mem_append_left _ h1, h2⟩
    · exact ⟨c, w, by simp, List.mem_singleton.mp q⟩
theorem RsW.flat {rs : List Row} {ws : List Str} (h : RsW rs ws) : rs.flatMap Row.leaves = ws := by
  induction h with
  | nil => rfl
  | snoc c w _ ih => rw [List.flatMap_append, ih]; simp [rk_leaves]
theorem RsW.take {rs : List Row} {ws : List Str} (h : RsW rs ws) (n : Nat) : RsW (rs.take n) (ws.take n) := by
  induction h with
  | nil => simpa using RsW.nil
  | snoc c w h ih =>
    rename_i rs ws
    have hl := h.len
    by_cases q : n ≤ rs.length
    · rw [List.take_append_of_le_length q, List.take_append_of_le_length (by omega)]; exact ih
    · rw [List.take_of_length_le (by simp; omega), List.take_of_length_le (by simp; omega)]
      exact .snoc c w h
theorem RsW.get {rs : List Row} {ws : List Str} (h : RsW rs ws) : ∀ k (h1 : k < rs.length) (h2 : k < ws.length), ∃ c, rs[k] = rk c ws[k] := by
  induction h with
  | nil => exact fun k h => nomatch h
  | snoc c w h ih =>
    rename_i rs ws
    have hl := h.len
    intro k h1 h2
    by_cases q : k < rs.length
    · obtain ⟨c', e⟩ := ih k q (by omega)
      exact ⟨c', by rw [List.getElem_append_left q, List.getElem_append_left (by omega)]; exact e⟩
    · refine ⟨c, ?_⟩
      rw [List.getElem_append_right (by omega), List.getElem_append_right (by omega)]
      simp
theorem run_rows2 {R : List Str} (hR : R.length ≤ 8) : ∀ (rs : List Row) (s : AS) (i : Int), s.beg ≠ none → KOk R s.known → s.lines.length + rs.length ≤ 60 → (∀ r ∈ rs, ∀ w ∈ r.leaves, w ∈ R) →
    run s i (rs.map rwL) = .inl {s with lines := s.lines ++ rs, known := (rs.flatMap Row.leaves).foldl addK s.known}
  | [], s, i, _, _, _, _ => by show Sum.inl s = _; simp
  | r :: rs, s, i, hb, hk, hl, hw => by
    rw [List.length_cons] at hl
    have hs := row_step hR hb hk (hw r (List.mem_cons_self ..)) i
    rw [if_neg (by omega)] at hs
    have e1 : (s.lines ++ [r]).length = s.lines.length + 1 := by simp
    have ih := run_rows2 hR rs {s with lines := s.lines ++ [r], known := r.leaves.foldl addK s.known} (i + 1) hb (fold_ok _ _ hk (hw r (List.mem_cons_self ..))) (by show (s.lines ++ [r]).length + _ ≤ 60; rw [e1]; omega) fun x hx => hw x (List.mem_cons_of_mem _ hx)
    rw [List.map_cons, run_cons, show (rwL r).act s i = rowO s (some r) i from rfl, hs]
    simp only
    rw [ih]
    simp
theorem fold_mem : ∀ (ws ks : List Str) (x : Str), x ∈ ws.foldl addK ks ↔ x ∈ ks ∨ x ∈ ws
  | [], ks, x => by simp
  | w :: ws, ks, x => by
    rw [List.foldl_cons, fold_mem ws, List.mem_cons]
    unfold addK
    by_cases q : w ∈ ks
    · rw [if_pos q]
      constructor
      · rintro (h | h)
        · exact .inl h
        · exact .inr (.inr h)
      · rintro (h | rfl | h)
        · exact .inl h
        · exact .inl q
        · exact .inr h
    · rw [if_neg q, List.mem_append, List.mem_singleton, or_assoc]
def hdA (own : List Str) : Piece := ⟨sa, own, [], [.on]⟩
noncomputable def leavesL (own : List Str) (rs : List Row) : List Line := hdL (hdA own) :: (rs ++ [Row.on]).map rwL
theorem run_append_inl {As Bs : List Line} {s s1 : AS} {i : Int} (h : run s i As = .inl s1) : run s i (As ++ Bs) = run s1 (i + As.length) Bs := by
  rw [run_app, h]
theorem leaves_head {own R : List Str} (hR : R.length ≤ 8) (ho : ∀ w ∈ own, w ∈ R) (Ls : List Line) : run s0 0 (hdL (hdA own) :: Ls) = run ⟨[], some (hdA own), [], own.foldl addK []⟩ 1 Ls := by
  have k := fold_ok own [] ⟨List.nodup_nil, fun _ z => nomatch z⟩ ho
  rw [run_cons, show (hdL (hdA own)).act s0 0 = learnS ⟨[], some (hdA own), [], []⟩ own 0 from rfl]
  unfold learnS
  rw [if_pos (kok_len hR k)]; rfl
theorem rsw_lv {rs : List Row} {ws R : List Str} (h : RsW rs ws) (hw : ∀ w ∈ ws, w ∈ R) : ∀ r ∈ rs, ∀ w ∈ r.leaves, w ∈ R := fun r hr w hx => by
  obtain ⟨c, w', h1, rfl⟩ := h.mem r hr
  rw [rk_leaves, List.mem_singleton] at hx
  rw [hx]; exact hw _ h1
theorem rsw_bad {rs : List Row} {ws : List Str} (h : RsW rs ws) (hw : ∀ w ∈ ws, isWordS w = true) : badAt ((rs ++ [Row.on]).map Row.u) = none := by
  have ok : ∀ r ∈ rs ++ [Row.on], r.ok = true := fun r hr => by
    rcases List.mem_append.mp hr with q | q
    · obtain ⟨c, w, h1, rfl⟩ := h.mem r q
      exact rk_ok c (hw w h1)
    · rw [List.mem_singleton.mp q]; rfl
  refine bad_of ok fun k hk => ?_
  by_cases q : k < rs.length
  · rw [List.getElem_append_left q, List.length_append, List.length_singleton]
    obtain ⟨c, w, h1, e⟩ := h.mem _ (List.getElem_mem q)
    rw [e]
    have := (rk_goes c w).1
    push_cast
    omega
  · rw [List.length_append, List.length_singleton] at hk
    have e : (rs ++ [Row.on])[k]'(by simpa using hk) = .on := by
      rw [List.getElem_append_right (by omega)]; simp
    rw [e, List.length_append, List.length_singleton]
    show (k : Int) + 1 + 0 ≤ _
    push_cast
    omega
theorem leaves_few {own ws : List Str} {rs : List Row} (h : RsW rs ws) (hw : ∀ w ∈ ws, isWordS w = true) (hl : ws.length ≤ 8) (ho : ∀ w ∈ own, w ∈ ws) : toldU (readS (leavesL own rs)) = .lst [.int (ws.length + 1)] := by
  have hlen := h.len
  have k0 := fold_ok (R := ws) own [] ⟨List.nodup_nil, fun _ z => nomatch z⟩ ho
  have lv : ∀ r ∈ rs ++ [Row.on], ∀ w ∈ r.leaves, w ∈ ws := fun r hr => by
    rcases List.mem_append.mp hr with q | q
    · exact rsw_lv h (fun _ z => z) r q
    · rw [List.mem_singleton.mp q]; exact fun w z => nomatch z
  have r := run_rows2 hl (rs ++ [Row.on]) ⟨[], some (hdA own), [], own.foldl addK []⟩ 1 (by simp) k0 (by show 0 + _ ≤ 60; simp; omega) lv
  unfold readS leavesL
  rw [leaves_head hl ho, r]
  unfold endS
  simp only [List.nil_append, rsw_bad h hw]
  rw [if_neg (by simp)]
  show U.lst [U.int ((rs ++ [Row.on]).length : Nat)] = _
  rw [List.length_append, hlen]; rfl
theorem leaves_many {own ws : List Str} {rs : List Row} (h : RsW rs ws) (hn : ws.Nodup) (hl : 9 ≤ ws.length) (hl2 : ws.length ≤ 13) (ho : ∀ w ∈ own, w ∈ ws.take 8) : toldU (readS (leavesL own rs)) = .int 9 := by
  have hlen := h.len
  have h8 := h.take 8
  have R8 : (ws.take 8).length ≤ 8 := by rw [List.length_take]; omega
  have R8' : (ws.take 8).length = 8 := by rw [List.length_take]; omega
  have k0 := fold_ok (R := ws.take 8) own [] ⟨List.nodup_nil, fun _ z => nomatch z⟩ ho
  have r := run_rows2 R8 (rs.take 8) ⟨[], some (hdA own), [], own.foldl addK []⟩ 1 (by simp) k0 (by show 0 + _ ≤ 60; rw [List.length_take]; omega) (rsw_lv h8 fun _ z => z)
  rw [h8.flat] at r
  have hr8 : 8 < rs.length := by omega
  have hw8 : 8 < ws.length := by omega
  obtain ⟨c, hc⟩ := h.get 8 hr8 hw8
  have es : rs ++ [Row.on] = rs.take 8 ++ (rs[8] :: (rs.drop 9 ++ [.on])) := by
    have : rs = rs.take 8 ++ rs.drop 8 := (List.take_append_drop 8 rs).symm
    have d : rs.drop 8 = rs[8] :: rs.drop 9 := List.drop_eq_getElem_cons hr8
    rw [d] at this
    exact (congrArg (· ++ [Row.on]) this).trans (by rw [List.append_assoc]; rfl)
  have nw : ws[8] ∉ ws.take 8 := fun z => by
    have e2 : ws = ws.take 8 ++ (ws[8] :: ws.drop 9) := by
      conv => lhs; rw [← List.take_append_drop 8 ws, List.drop_eq_getElem_cons hw8]
    rw [e2] at hn
    exact (List.nodup_append.mp hn).2.2 _ z _ (List.mem_cons_self ..) rfl
  obtain ⟨ks, hks⟩ : ∃ ks, ks = (ws.take 8).foldl addK (own.foldl addK []) := ⟨_, rfl⟩
  have kk := fold_ok (R := ws.take 8) (ws.take 8) _ k0 fun _ z => z
  rw [← hks] at kk r
  have k8 : 8 ≤ ks.length := by
    have := G1.nodup_len (ws.take 8) ks (List.Nodup.sublist (List.take_sublist ..) hn) fun x hx => by rw [hks, fold_mem]; exact .inr hx
    omega
  have nk : ws[8] ∉ ks := fun z => nw (kk.2 _ z)
  unfold readS leavesL
  rw [leaves_head R8 ho, es, List.map_append, run_append_inl r, List.map_cons, run_cons]
  have hrow : (rwL rs[8]).act {(⟨[], some (hdA own), [], own.foldl addK []⟩ : AS) with lines := [] ++ rs.take 8, known := ks} (1 + ((rs.take 8).map rwL).length) = .inr 9 := by
    show rowS _ _ _ = _
    unfold rowS
    have l8 : (rs.take 8).length = 8 := by rw [List.length_take]; omega
    rw [if_neg (by simp; omega), hc, rk_leaves]
    unfold learnS
    have ha : [ws[8]].foldl addK ks = ks ++ [ws[8]] := by
      show addK ks ws[8] = _
      unfold addK
      rw [if_neg nk]
    simp only [ha]
    rw [if_neg (by simp; omega), List.length_map, l8]; rfl
  rw [hrow]; rfl
end T_allcallers_k13_ends_and_bounds
namespace T_allcallers_k13_ends_and_bounds
open PySem L2 D C TX TL
def piS1 : DS := (sSet 1 (bin add2 (cst (.int 1)) (appU f_l_draw (acons (var 0) (acons (cst (.int 13)) anil)))))
def piS2 : DS := (sSet 2 (appU f_l_draw (acons (var 0) (acons (cst (.int 600)) anil))))
def piS3 : DS := (sOwn 3 (szDL anil))
def piS4 : DS := (sFor (itA rng1 (acons (var 1) anil)) (tgN 4) t1_l_pieces)
def piS5 : DS := (sSet 5 (bin ix2 (appN szL (acons (bin mul2 (appN szL (acons (cst (.int 1)) anil)) (var 1)) (acons (cst (.int 24)) anil))) (appN intN (acons (bin eq2 (var 1) (cst (.int 13))) anil))))
def piS6 : DS := (sIf (andT (tst (bin eq2 (appU f_l_draw (acons (var 0) (acons (cst (.int 3)) anil))) (cst (.int 0)))) (tst (bin gt2 (var 1) (cst (.int 1))))) (sSeq (sSet 6 (bin add2 (cst (.int 1)) (appU f_l_draw (acons (var 0) (acons (bin sub2 (var 1) (cst (.int 1))) anil))))) (sSeq (sIxO 3 (bin mul2 (cst (.int 2)) (var 6)) (binP ix2 3 (bin mul2 (cst (.int 2)) (appU f_l_draw (acons (var 0) (acons (var 6) anil)))))) (sSeq (sSet 5 (appN minN (acons (cst (.int 24)) (acons (bin mul2 (cst (.int 2)) (var 6)) anil)))) sNil))) sNil)
def piS7 : DS := (frzS 3 (sRet (bin eq2 (appU f_l_told (acons (joinD (cst (.str (Str.ofString "\n"))) (var 3)) anil)) (var 5))))
theorem piS_eq : b_l_pieces = sSeq piS1 (sSeq piS2 (sSeq piS3 (sSeq piS4 (sSeq piS5 (sSeq piS6 (sSeq piS7 sNil)))))) := rfl
theorem chain {s rest : DS} {env env1 : D.Env} {st st1 : Store} (h : s env st = .nx env1 st1) : sSeq s rest env st = rest env1 st1 := by
  rw [sSeq_ap, h]; rfl
/-- the hand at its place -/
def Hd (n : Nat) (st : Store) : Prop := ∃ ob, st[n]? = some ob ∧ HandOb ob
theorem Hd.pre {n : Nat} {st st' : Store} (h : Hd n st) (p : Pre st st') : Hd n st' := by
  obtain ⟨ob, e, o⟩ := h; exact ⟨ob, p n ob e, o⟩
theorem draw_hd {n : Nat} {st : Store} (h : Hd n st) (m : Nat) (hm : 0 < m) (hm2 : m < 1073741824) : ∃ (r : Nat) (st' : Store), f_l_draw [.ref n, .int (m : Int)] st = .ok (.int (r : Int)) st' ∧ r < m ∧ Hd n st' := by
  obtain ⟨ob, e, o⟩ := h
  obtain ⟨r, ob', e1, h0, h1, o'⟩ := draw_ok n (m : Int) (by omega) (by omega) st ob e o
  have hn : n < st.length := (List.getElem?_eq_some_iff.mp e).1
  refine ⟨r.toNat, st.set n ob', ?_, by omega, ob', List.getElem?_set_self hn, o'⟩
  rw [show ((r.toNat : Nat) : Int) = r by omega]
  exact e1
theorem eqI (us : List Int) : eq2 (.lst (us.map U.int)) (.lst (us.map U.int)) = some (.bl true) := eq2_refl (n := 2) (by
  show (us.map U.int).all (eqOk 1) = true
  rw [List.all_eq_true]
  intro u hu
  obtain ⟨w, _, rfl⟩ := List.mem_map.mp hu
  rfl) (by decide)
def hT (x : Str) : Str := Str.ofString "piece " ++ x ++ Str.ofString " !"
def onT : Str := Str.ofString "on"
def flat2 (xs : List Str) : List Str := (xs.map fun x => [hT x, onT]).flatten
theorem flat2_cons (x : Str) (xs : List Str) : flat2 (x :: xs) = hT x :: onT :: flat2 xs := rfl
theorem flat2_snoc (xs : List Str) (x : Str) : flat2 (xs ++ [x]) = flat2 xs ++ [hT x, onT] := by
  unfold flat2; simp
theorem flat2_len : ∀ xs : List Str, (flat2 xs).length = 2 * xs.length
  | [] => rfl
  | x :: xs => by rw [flat2_cons, List.length_cons, List.length_cons, flat2_len xs, List.length_cons]; omega
theorem flat2_get : ∀ (xs : List Str) (j : Nat), (flat2 xs)[2 * j]? = (xs[j]?).map hT
  | [], j => by simp [flat2]
  | x :: xs, 0 => rfl
  | x :: xs, j + 1 => by
    rw [flat2_cons, show 2 * (j + 1) = 2 * j + 1 + 1 by omega, List.getElem?_cons_succ, List.getElem?_cons_succ, List.getElem?_cons_succ]
    exact flat2_get xs j
theorem flat2_set : ∀ (xs : List Str) (j : Nat) (y : Str), (flat2 xs).set (2 * j) (hT y) = flat2 (xs.set j y)
  | [], j, y => by simp [flat2]
  | x :: xs, 0, y => rfl
  | x :: xs, j + 1, y => by
    rw [flat2_cons, show 2 * (j + 1) = 2 * j + 1 + 1 by omega, List.set_cons_succ, List.set_cons_succ, List.set_cons_succ, flat2_set xs j y]; rfl
theorem head_text (x : Str) : Txt.join sp (headW (pc x)) = hT x := by
  have e1 : Str.join sp [Str.ofString "piece", x, bang] = Str.ofString "piece" ++ sp ++ (x ++ sp ++ bang) := by
    rw [join_cons _ _ (by simp), join_cons _ _ (by simp)]; rfl
  rw [TL.join_eq]
  show Str.join sp [Str.ofString "piece", x, bang] = _
  have e2 : Str.ofString "piece" ++ sp = Str.ofString "piece " := by decide +kernel
  have e3 : sp ++ bang = Str.ofString " !" := by decide +kernel
  rw [e1, e2, str_assoc x, e3, ← str_assoc]; rfl
theorem twos_T : ∀ xs : List Str, (twos xs).map Line.T = flat2 xs
  | [] => rfl
  | x :: xs => by
    rw [twos_cons, List.map_append, twos_T xs, flat2_cons]
    show Txt.join sp (headW (pc x)) :: rowT .on :: flat2 xs = _
    rw [head_text]; rfl
theorem pc_ok {x : Str} (h : isWordS x = true) : (pc x).ok = true := (pok_iff _).mpr ⟨h, (by decide +kernel : leavesS [] = true), (by decide +kernel : argsS [] = true), (by decide +kernel : (dedS []).length = 0), (by decide : 1 ≤ 1), (by decide : 1 ≤ 60), fun r hr => by
  have : r = Row.on := by simpa [pc] using hr
  rw [this]; rfl, fun k hk => by
  have hk0 : k = 0 := by
    have : k < 1 := hk
    omega
  subst hk0
  show ((0 : Nat) : Int) + 1 + Row.on.goes ≤ (([Row.on] : List Row).length : Nat)
  decide⟩
theorem on_k : LK (rwL .on) := rwL_k ⟨rfl, by decide⟩
theorem twos_k : ∀ {xs : List Str}, (∀ x ∈ xs, isWordS x = true) → ∀ L ∈ twos xs, LK L
  | [], _, L, h => nomatch h
  | x :: xs, hw, L, h => by
    rw [twos_cons] at h
    rcases List.mem_append.mp h with q | q
    · rcases List.mem_cons.mp q with rfl | q
      · exact hdL_k (pc_ok (hw x (List.mem_cons_self ..)))
      · rw [List.mem_singleton.mp q]; exact on_k
    · exact twos_k (fun y hy => hw y (List.mem_cons_of_mem _ hy)) L q
theorem hT_len {x : Str} (h : isWordS x = true) : (hT x).length ≤ 20 := by
  have := word_len h
  unfold hT
  rw [Str.length_append, Str.length_append]
  have a : (Str.ofString "piece ").length = 6 := by decide +kernel
  have b : (Str.ofString " !").length = 2 := by decide +kernel
  omega
theorem flat2_lens {xs : List Str} (hw : ∀ x ∈ xs, isWordS x = true) : ∀ t ∈ flat2 xs, t.length ≤ 20 := fun t ht => by
  unfold flat2 at ht
  obtain ⟨l, hl, h1⟩ := List.mem_flatten.mp ht
  obtain ⟨x, hx, rfl⟩ := List.mem_map.mp hl
  rcases List.mem_cons.mp h1 with rfl | h1
  · exact hT_len (hw x hx)
  · rw [List.mem_singleton.mp h1]; decide +kernel
/-- what is told of such pieces -/
theorem told_names {xs : List Str} (h0 : xs ≠ []) (hl : xs.length ≤ 13) (hw : ∀ x ∈ xs, isWordS x = true) (st : Store) :
    ∃ T st', join2 (Str.ofString "\n") (.lst ((flat2 xs).map U.str)) = some (.str T) ∧ f_l_told [.str T] st = .ok (toldU (readS (twos xs))) st' ∧ Pre st st' := by
  have hlen := flat2_len xs
  have n1 : TX.nl.length = 1 := by decide +kernel
  have hj := join_ev TX.nl (flat2 xs) 20 (flat2_lens hw) (by rw [n1]; omega)
  have hs := join_len TX.nl (flat2 xs) 20 (flat2_lens hw)
  rw [n1] at hs
  have hne : twos xs ≠ [] := fun z => by
    have := twos_len xs
    rw [z] at this
    have : 0 < xs.length := List.length_pos_iff.mpr h0
    simp at *; omega
  obtain ⟨st', e, p⟩ := told_lines hne (by rw [twos_len]; omega) (twos_k hw) (by rw [twos_T]; omega) st
  rw [twos_T] at e
  exact ⟨_, st', hj, e, p⟩
end T_allcallers_k13_ends_and_bounds
namespace T_allcallers_k13_ends_and_bounds
open PySem L2 D C TX TL
theorem wsN_snoc (first k : Nat) : wsN first (k + 1) = wsN first k ++ [wordN (first + k)] := by
  unfold wsN; rw [List.range_succ, List.map_append]; rfl
theorem word_le {n : Nat} (h : n < 700) : (wordN n).length ≤ 8 := word_len (word_facts n h).1
theorem pi4 (n many first : Nat) (hm : many ≤ 13) (hf : first < 600) (s4 s5 s6 : Sl) (st : Store) :
    ∃ t4, piS4 [.val (.ref n), .val (.int (many : Int)), .val (.int (first : Int)), .own [], s4, s5, s6] st = .nx [.val (.ref n), .val (.int (many : Int)), .val (.int (first : Int)), .own ((flat2 (wsN first many)).map U.str), t4, s5, s6] st := by
  have hr : rng1 [U.int (many : Int)] = some ((List.range many).map fun i => U.int (i : Nat)) := rng1_nat many (by omega)
  obtain ⟨env', e, t4, rfl⟩ := for_rng (j := 4) (b := t1_l_pieces) (st := st) many (fun k env => ∃ t4, env = [.val (.ref n), .val (.int (many : Int)), .val (.int (first : Int)), .own ((flat2 (wsN first k)).map U.str), t4, s5, s6]) (env := [.val (.ref n), .val (.int (many : Int)), .val (.int (first : Int)), .own [], s4, s5, s6]) ⟨s4, rfl⟩ (fun k env hk ⟨t4, he⟩ => by
    refine ⟨[.val (.ref n), .val (.int (many : Int)), .val (.int (first : Int)), .own ((flat2 (wsN first (k + 1))).map U.str), .val (.int (k : Int)), s5, s6], .inl ?_, _, rfl⟩
    rw [he]
    show t1_l_pieces [.val (.ref n), .val (.int (many : Int)), .val (.int (first : Int)), .own ((flat2 (wsN first k)).map U.str), .val (.int (k : Int)), s5, s6] st = _
    have hw := word_ev (first + k) (by omega) st
    have hwl := word_le (n := first + k) (by omega)
    rw [show ((first + k : Nat) : Int) = (first : Int) + (k : Int) by omega] at hw
    have ad1 : (Str.ofString "piece ").length + (wordN (first + k)).length ≤ 16777216 := by
      have : (Str.ofString "piece ").length = 6 := by decide +kernel
      omega
    have ad2 : (Str.ofString "piece " ++ wordN (first + k)).length + (Str.ofString " !").length ≤ 16777216 := by
      have a : (Str.ofString "piece ").length = 6 := by decide +kernel
      have b : (Str.ofString " !").length = 2 := by decide +kernel
      rw [Str.length_append]; omega
    have a1 : add2 (.str (Str.ofString "piece ")) (.str (wordN (first + k))) = some (.str (Str.ofString "piece " ++ wordN (first + k))) := by
      exact if_pos (by rw [sizeLine_val]; exact ad1)
    have a2 : add2 (.str (Str.ofString "piece " ++ wordN (first + k))) (.str (Str.ofString " !")) = some (.str (hT (wordN (first + k)))) := by
      exact if_pos (by rw [sizeLine_val]; exact ad2)
    have hfl : ((flat2 (wsN first k)).map U.str).length + 2 ≤ 16777216 := by rw [List.length_map, flat2_len, ws_len]; omega
    rw [wsN_snoc, flat2_snoc, List.map_append]
    generalize (flat2 (wsN first k)).map U.str = FL at *
    rw [show [hT (wordN (first + k)), onT].map U.str = [.str (hT (wordN (first + k))), .str onT] from rfl]
    generalize hT (wordN (first + k)) = HT at *
    generalize Str.ofString "piece " ++ wordN (first + k) = HA at *
    unfold onT t1_l_pieces
    simp [frzE, frz1, hw, a1, a2, szL, hfl])
  refine ⟨t4, ?_⟩
  unfold piS4
  simp [hr, e]
def due5 (many : Nat) : U := if many = 13 then .int 24 else .lst (List.replicate many (U.int 1))
theorem pi5 (n many : Nat) (hm : many ≤ 13) (s2 s3 s4 s5 s6 : Sl) (st : Store) : piS5 [.val (.ref n), .val (.int (many : Int)), s2, s3, s4, s5, s6] st = .nx [.val (.ref n), .val (.int (many : Int)), s2, s3, s4, .val (due5 many), s6] st := by
  have m1 : mul2 (.lst [.int 1]) (.int (many : Int)) = some (.lst (List.replicate many (U.int 1))) := by
    have e : (List.replicate many [U.int 1]).flatten = List.replicate many (U.int 1) := by
      clear hm
      induction many with
      | zero => rfl
      | succ k ih => rw [List.replicate_succ, List.flatten_cons, ih]; rfl
    simp only [mul2]
    rw [if_pos ⟨by omega, by omega, by show 1 * _ ≤ _; rw [sizeLine_val, Int.toNat_natCast]; omega⟩, Int.toNat_natCast, e]
  unfold piS5 due5
  by_cases q : many = 13
  · subst q
    rw [if_pos rfl]
    generalize List.replicate 13 (U.int 1) = RP at *
    have m1 : mul2 (.lst [.int 1]) (.int 13) = some (.lst RP) := m1
    simp [szL, m1, intN]
  · rw [if_neg q]
    have q' : ¬ ((many : Int) = 13) := by omega
    generalize List.replicate many (U.int 1) = RP at *
    simp [szL, m1, q', intN]
theorem pi7 (n : Nat) {xs : List Str} (h0 : xs ≠ []) (hl : xs.length ≤ 13) (hw : ∀ x ∈ xs, isWordS x = true) (due : U) (hd : toldU (readS (twos xs)) = due) (hok : eqOk 3 due = true) (s1 s2 s4 s6 : Sl) (st : Store) :
    ∃ st', piS7 [.val (.ref n), s1, s2, .own ((flat2 xs).map U.str), s4, .val due, s6] st = .rt (.bl true) st' ∧ Pre st st' := by
  obtain ⟨T, st', hj, e, p⟩ := told_names h0 hl hw st
  rw [hd] at e
  have eq := eq2_refl hok (by decide)
  refine ⟨st', ?_, p⟩
  generalize (flat2 xs).map U.str = FL at *
  unfold piS7
  simp [frzE, frz1, joinD, hj, e, eq]
set_option maxHeartbeats 1000000 in
theorem pieces_ev {n : Nat} {st : Store} (h : Hd n st) : ∃ st', f_l_pieces [.ref n] st = .ok (.bl true) st' ∧ Hd n st' := by
  obtain ⟨r1, st1, d1, l1, h1⟩ := draw_hd h 13 (by decide) (by decide)
  obtain ⟨first, st2, d2, l2, h2⟩ := draw_hd h1 600 (by decide) (by decide)
  obtain ⟨many, hmany⟩ : ∃ m, m = r1 + 1 := ⟨_, rfl⟩
  have hm : many ≤ 13 := by omega
  have hm1 : (1 : Int) + (r1 : Int) = (many : Int) := by omega
  obtain ⟨t4, e4⟩ := pi4 n many first hm l2 .un .un .un st2
  have e5 := pi5 n many hm (.val (.int (first : Int))) (.own ((flat2 (wsN first many)).map U.str)) t4 .un .un st2
  have hnd := ws_nodup (many := many) l2 hm
  have hww := ws_words (many := many) l2 hm
  have hwl := ws_len first many
  obtain ⟨r3, st3, d3, l3, h3⟩ := draw_hd h2 3 (by decide) (by decide)
  -- what the seventh row finds
  have hgood : toldU (readS (twos (wsN first many))) = due5 many := by
    unfold due5
    by_cases q : many = 13
    · rw [if_pos q]
      have e : wsN first many = wsN first 12 ++ wordN (first + 12) :: [] := by rw [q]; exact wsN_snoc first 12
      rw [e, told_bad (fun z => by have := ws_len first 12; rw [z] at this; cases this) (ws_nodup l2 (by decide)) (by rw [ws_len]; decide) (.inr (ws_len ..)), ws_len]
      rfl
    · rw [if_neg q, told_good (fun z => by rw [z] at hwl; simp at hwl; omega) hnd (by omega)]
      refine congrArg U.lst ?_
      rw [List.map_const', hwl]
  have okd : eqOk 3 (due5 many) = true := by
    unfold due5
    split
    · rfl
    · show (List.replicate many (U.int 1)).all (eqOk 2) = true
      rw [List.all_eq_true]
      intro u hu
      rw [List.eq_of_mem_replicate hu]; rfl
  have e6 : ∃ xs due s6 st4, piS6 [.val (.ref n), .val (.int (many : Int)), .val (.int (first : Int)), .own ((flat2 (wsN first many)).map U.str), t4, .val (due5 many), .un] st2 = .nx [.val (.ref n), .val (.int (many : Int)), .val (.int (first : Int)), .own ((flat2 xs).map U.str), t4, .val due, s6] st4 ∧ Hd n st4 ∧ xs.length = many ∧ (∀ x ∈ xs, isWordS x = true) ∧ toldU (readS (twos xs)) = due ∧ eqOk 3 due = true := by
    by_cases c : r3 = 0 ∧ 1 < many
    · obtain ⟨c0, c1⟩ := c
      subst c0
      obtain ⟨a, st4, d4, l4, h4⟩ := draw_hd h3 (many - 1) (by omega) (by omega)
      obtain ⟨j, st5, d5, l5, h5⟩ := draw_hd h4 (a + 1) (by omega) (by omega)
      have hj : j < (wsN first many).length := by omega
      obtain ⟨y, hy⟩ : ∃ y, (wsN first many)[j]? = some y := ⟨_, List.getElem?_eq_getElem hj⟩
      have hyw : y ∈ wsN first many := List.mem_of_getElem? hy
      refine ⟨(wsN first many).set (a + 1) y, .int (2 * ((a + 1 : Nat) : Int)), .val (.int ((a + 1 : Nat) : Int)), st5, ?_, h5, by rw [List.length_set]; exact hwl, fun x hx => ?_, ?_, rfl⟩
      · rw [← flat2_set]
        have g1 := flat2_get (wsN first many) j
        rw [hy] at g1
        have fl := flat2_len (wsN first many)
        generalize flat2 (wsN first many) = FL at *
        have g2 : (FL.map U.str)[2 * j]? = some (.str (hT y)) := by rw [List.getElem?_map, g1]; rfl
        have x1 : ix2 (.lst (FL.map U.str)) (.int (2 * (j : Int))) = some (.str (hT y)) := by
          have := atI_at (l := FL.map U.str) g2
          rw [show ((2 * j : Nat) : Int) = 2 * (j : Int) by omega] at this
          exact this
        have x2 : ixN (FL.map U.str).length (2 * ((a + 1 : Nat) : Int)) = some (2 * (a + 1)) := by
          unfold ixN
          rw [List.length_map, fl]
          rw [if_pos (by omega), if_pos (by omega)]
          exact congrArg some (by omega)
        have x3 : (FL.map U.str).set (2 * (a + 1)) (.str (hT y)) = (FL.set (2 * (a + 1)) (hT y)).map U.str := by rw [List.map_set]
        rw [← x3]
        have hm1 : (many : Int) - 1 = ((many - 1 : Nat) : Int) := by omega
        have ha1 : (1 : Int) + (a : Int) = ((a + 1 : Nat) : Int) := by omega
        have cm : (1 : Int) < (many : Int) := by omega
        have mn : minN [.int 24, .int (2 * ((a + 1 : Nat) : Int))] = some (.int (2 * ((a + 1 : Nat) : Int))) := by
          show some (U.int (if 2 * ((a + 1 : Nat) : Int) < 24 then _ else 24)) = _
          split
          · rfl
          · exact congrArg (fun z => some (U.int z)) (by omega)
        have s2 : smallI 2 = true := by decide
        generalize FL.map U.str = FM at *
        generalize ((a + 1 : Nat) : Int) = A1 at *
        generalize ((many - 1 : Nat) : Int) = M1 at *
        have d3 : f_l_draw [.ref n, .int 3] st2 = .ok (.int 0) st3 := d3
        unfold piS6
        simp [d3, cm, hm1, d4, ha1, d5, s2, ownL, x1, x2, mn, flat1, flatU]
      · rcases List.mem_or_eq_of_mem_set hx with q | rfl
        · exact hww x q
        · exact hww x hyw
      · have ea : (wsN first many).set (a + 1) y = (wsN first many).take (a + 1) ++ y :: (wsN first many).drop (a + 2) := List.set_eq_take_append_cons_drop .. |>.trans (by rw [if_pos (by omega)])
        have tl : ((wsN first many).take (a + 1)).length = a + 1 := by rw [List.length_take]; omega
        have ym : y ∈ (wsN first many).take (a + 1) := List.mem_of_getElem? (i := j) (by rw [List.getElem?_take_of_lt (by omega)]; exact hy)
        rw [ea, told_bad (fun z => by rw [z] at tl; cases tl) (hnd.sublist (List.take_sublist ..)) (by omega) (.inl ym), tl]
    · refine ⟨wsN first many, due5 many, .un, st3, ?_, h3, hwl, hww, hgood, okd⟩
      generalize due5 many = DU at *
      generalize (flat2 (wsN first many)).map U.str = FM at *
      unfold piS6
      by_cases c0 : r3 = 0
      · have c1 : ¬ (1 : Int) < (many : Int) := fun z => c ⟨c0, by omega⟩
        subst c0
        have d3 : f_l_draw [.ref n, .int 3] st2 = .ok (.int 0) st3 := d3
        simp [d3, c1]
      · have c0' : ¬ (r3 : Int) = 0 := by omega
        have d3 : f_l_draw [.ref n, .int 3] st2 = .ok (.int (r3 : Int)) st3 := d3
        simp [d3, c0, c0']
  obtain ⟨xs, due, s6, st4, e6, h4, xl, xw, xt, xo⟩ := e6
  obtain ⟨st5, e7, p7⟩ := pi7 n (xs := xs) (fun z => by rw [z] at xl; simp at xl; omega) (by omega) xw due xt xo (.val (.int (many : Int))) (.val (.int (first : Int))) t4 s6 st4
  refine ⟨st5, ?_, h4.pre p7⟩
  have r1' : piS1 [.val (.ref n), .un, .un, .un, .un, .un, .un] st = .nx [.val (.ref n), .val (.int (many : Int)), .un, .un, .un, .un, .un] st1 := by
    have d1 : f_l_draw [.ref n, .int 13] st = .ok (.int (r1 : Int)) st1 := d1
    unfold piS1
    simp [d1, hm1]
  have r2' : piS2 [.val (.ref n), .val (.int (many : Int)), .un, .un, .un, .un, .un] st1 = .nx [.val (.ref n), .val (.int (many : Int)), .val (.int (first : Int)), .un, .un, .un, .un] st2 := by
    have d2 : f_l_draw [.ref n, .int 600] st1 = .ok (.int (first : Int)) st2 := d2
    unfold piS2
    simp [d2]
  have r3' : piS3 [.val (.ref n), .val (.int (many : Int)), .val (.int (first : Int)), .un, .un, .un, .un] st2 = .nx [.val (.ref n), .val (.int (many : Int)), .val (.int (first : Int)), .own [], .un, .un, .un] st2 := by
    unfold piS3
    simp
  show fin (b_l_pieces [.val (.ref n), .un, .un, .un, .un, .un, .un] st) = _
  rw [piS_eq, chain r1', chain r2', chain r3', chain e4, chain e5, chain e6, sSeq_ap, e7]
  rfl
end T_allcallers_k13_ends_and_bounds
namespace T_allcallers_k13_ends_and_bounds
open PySem L2 D C TX TL
def roS1 : DS := (sSet 1 (bin add2 (cst (.int 58)) (appU f_l_draw (acons (var 0) (acons (cst (.int 5)) anil)))))
def roS2 : DS := (sSet 2 (appU f_l_draw (acons (var 0) (acons (var 1) anil))))
def roS3 : DS := (sSet 3 (bin ix2 (appN szL (acons (bin sub2 (bin sub2 (var 1) (cst (.int 1))) (var 2)) (acons (bin sub2 (var 1) (var 2)) (acons (bin pow2 (cst (.int 10)) (cst (.int 30))) anil)))) (appU f_l_draw (acons (var 0) (acons (cst (.int 3)) anil)))))
def roS4 : DS := (sSet 4 (bin ix2 (appN szL (acons (cst (.str (Str.ofString "over "))) (acons (cst (.str (Str.ofString "skip a "))) (acons (cst (.str (Str.ofString "ask b "))) anil)))) (appU f_l_draw (acons (var 0) (acons (cst (.int 3)) anil)))))
def roS5 : DS := (sOwn 5 (mulL (appN szL (acons (cst (.str (Str.ofString "count"))) anil)) (var 1)))
def roS6 : DS := (sSet 6 (bin ix2 (appN szL (acons (appN szL (acons (var 1) anil)) (acons (cst (.int 61)) anil))) (appN intN (acons (bin gt2 (var 1) (cst (.int 60))) anil))))
def roS7 : DS := (sIf (tst (bin gt2 (var 3) (cst (.int 0)))) (sSeq (sIxO 5 (var 2) (bin add2 (var 4) (appN strN (acons (var 3) anil)))) (sSeq (sIf (andT (tst (bin lt2 (var 1) (cst (.int 61)))) (tst (bin ge2 (var 3) (bin sub2 (var 1) (var 2))))) (sSeq (sSet 6 (bin add2 (cst (.int 1)) (var 2))) sNil) sNil) sNil)) sNil)
def roS8 : DS := (frzS 5 (sSet 7 (joinD (cst (.str (Str.ofString "\n"))) (bin add2 (appN szL (acons (cst (.str (Str.ofString "piece a !"))) anil)) (var 5)))))
def roS9 : DS := (sIf (tst (bin ne2 (appU f_l_told (acons (var 7) anil)) (var 6))) (sSeq (sRet (cst (.bl false))) sNil) sNil)
def roS10 : DS := (sIf (tst (appN isiN (acons (var 6) (acons (cst (.ty "list")) anil)))) (sSeq (sSet 6 (bin add2 (var 6) (appN szL (acons (cst (.int 1)) anil)))) (sSeq (sRet (andV (bin eq2 (appU f_l_told (acons (bin add2 (var 7) (cst (.str (Str.ofString "\npiece b !\non")))) anil)) (var 6)) (bin eq2 (appU f_l_told (acons (bin add2 (var 7) (cst (.str (Str.ofString "\npiece b !")))) anil)) (bin add2 (var 1) (cst (.int 2)))))) sNil)) sNil)
def roS11 : DS := (sSet 8 (bin ix2 (appN szL (acons (bin add2 (var 1) (cst (.int 1))) (acons (cst (.int 61)) anil))) (appN intN (acons (bin gt2 (var 1) (cst (.int 60))) anil))))
def roS12 : DS := (sRet (andV (bin eq2 (appU f_l_told (acons (bin add2 (var 7) (cst (.str (Str.ofString "\npiece a !")))) anil)) (var 6)) (bin eq2 (appU f_l_told (acons (bin add2 (var 7) (cst (.str (Str.ofString "\nnone")))) anil)) (var 8))))
theorem roS_eq : b_l_rows = sSeq roS1 (sSeq roS2 (sSeq roS3 (sSeq roS4 (sSeq roS5 (sSeq roS6 (sSeq roS7 (sSeq roS8 (sSeq roS9 (sSeq roS10 (sSeq roS11 (sSeq roS12 sNil))))))))))) := rfl
structure LS (L : Line) : Prop where
  k : LK L
  l : L.T.length ≤ 1000
theorem nl_len : TX.nl.length = 1 := by decide +kernel
theorem ls_len {Ls : List Line} (hn : ∀ L ∈ Ls, LS L) : (Txt.join TX.nl (Ls.map Line.T)).length ≤ Ls.length * 1001 := by
  have := join_len TX.nl (Ls.map Line.T) 1000 (fun t ht => by obtain ⟨L, hL, rfl⟩ := List.mem_map.mp ht; exact (hn L hL).l)
  rw [nl_len, List.length_map] at this
  omega
theorem told_ls {Ls : List Line} (h : Ls ≠ []) (hz : Ls.length ≤ 100) (hn : ∀ L ∈ Ls, LS L) (st : Store) : ∃ st', f_l_told [.str (Txt.join TX.nl (Ls.map Line.T))] st = .ok (toldU (readS Ls)) st' ∧ Pre st st' :=
  told_lines h (by omega) (fun L hL => (hn L hL).k) (by have := ls_len hn; omega) st
theorem told_cat {As Bs : List Line} (ha : As ≠ []) (hb : Bs ≠ []) (hz : As.length + Bs.length ≤ 100) (hn : ∀ L ∈ As ++ Bs, LS L) (X : Str) (hX : TX.nl ++ Txt.join TX.nl (Bs.map Line.T) = X) (st : Store) : (∃ st', f_l_told [.str (Txt.join TX.nl (As.map Line.T) ++ X)] st = .ok (toldU (readS (As ++ Bs))) st' ∧ Pre st st') ∧ (Txt.join TX.nl (As.map Line.T)).length + X.length ≤ 16777216 := by
  have e : Txt.join TX.nl ((As ++ Bs).map Line.T) = Txt.join TX.nl (As.map Line.T) ++ X := by
    rw [List.map_append, ← hX]
    rw [TL.join_eq, TL.join_eq, TL.join_eq]
    have := join_app TX.nl (a := As.map Line.T) (b := Bs.map Line.T) (fun z => ha (List.map_eq_nil_iff.mp z)) (fun z => hb (List.map_eq_nil_iff.mp z))
    rw [← str_assoc]
    exact this
  have r := told_ls (Ls := As ++ Bs) (by simp [ha]) (by rw [List.length_append]; omega) hn st
  have l := ls_len hn
  rw [e] at r l
  rw [Str.length_append, List.length_append] at l
  exact ⟨r, by omega⟩
theorem ls_head {x : Str} (h : isWordS x = true) : LS (hdL (pc x)) := ⟨hdL_k (pc_ok h), by
  show (Txt.join sp (headW (pc x))).length ≤ 1000
  rw [head_text]; have := hT_len h; omega⟩
theorem ls_on : LS (rwL .on) := ⟨on_k, by decide +kernel⟩
theorem jn2 (a b : Str) : Txt.join sp [a, b] = a ++ sp ++ b := by rw [TL.join_eq]; rfl
theorem jn3 (a b c : Str) : Txt.join sp [a, b, c] = a ++ sp ++ (b ++ sp ++ c) := by rw [TL.join_eq, join_cons _ _ (by simp), join_cons _ _ (by simp)]; rfl
theorem jn4 (a b c d : Str) : Txt.join sp [a, b, c, d] = a ++ sp ++ (b ++ sp ++ (c ++ sp ++ d)) := by rw [TL.join_eq, join_cons _ _ (by simp), join_cons _ _ (by simp), join_cons _ _ (by simp)]; rfl
theorem jn5 (a b c d e : Str) : Txt.join sp [a, b, c, d, e] = a ++ sp ++ (b ++ sp ++ (c ++ sp ++ (d ++ sp ++ e))) := by rw [TL.join_eq, join_cons _ _ (by simp), join_cons _ _ (by simp), join_cons _ _ (by simp), join_cons _ _ (by simp)]; rfl
def rr (c : Nat) (v : Int) : Row := match c with
  | 0 => .over v
  | 1 => .skip sa v
  | _ => .ask sb v
def wT (c : Nat) : Str := match c with
  | 0 => Str.ofString "over "
  | 1 => Str.ofString "skip a "
  | _ => Str.ofString "ask b "
theorem rr_text (c : Nat) (v : Int) : rowT (rr c v) = wT c ++ num v := by
  unfold rr wT
  split
  · have e1 : rowT (.over v) = Str.ofString "over" ++ sp ++ num v := jn2 _ _
    have e2 : Str.ofString "over" ++ sp = Str.ofString "over " := by decide +kernel
    rw [e1, e2]
  · have e1 : rowT (.skip sa v) = Str.ofString "skip" ++ sp ++ (sa ++ sp ++ num v) := jn3 _ _ _
    have e2 : Str.ofString "skip" ++ sp ++ (sa ++ sp) = Str.ofString "skip a " := by decide +kernel
    rw [e1, ← e2]; simp only [str_assoc]
  · have e1 : rowT (.ask sb v) = Str.ofString "ask" ++ sp ++ (sb ++ sp ++ num v) := jn3 _ _ _
    have e2 : Str.ofString "ask" ++ sp ++ (sb ++ sp) = Str.ofString "ask b " := by decide +kernel
    rw [e1, ← e2]; simp only [str_assoc]
theorem rr_goes (c : Nat) (v : Int) : (rr c v).goes = v := by unfold rr; split <;> rfl
theorem rr_ok (c : Nat) {v : Int} (h : 0 < v) : (rr c v).ok = true := by
  have hb : isWordS sb = true := by decide +kernel
  have ha : isWordS sa = true := by decide +kernel
  unfold rr
  split <;> simp [Row.ok, h, ha, hb]
theorem rr_lv (c : Nat) (v : Int) : ∀ w ∈ (rr c v).leaves, w ∈ [sb] := by
  unfold rr
  split
  · exact fun w h => nomatch h
  · exact fun w h => nomatch h
  · exact fun w h => h
theorem wT_len (c : Nat) : (wT c).length ≤ 7 := by unfold wT; split <;> decide +kernel
def VOk (v : Int) : Prop := 0 < v ∧ v ≤ 1000000 ∨ v = far
theorem num_len2 {v : Int} (h : VOk v) : (num v).length ≤ 40 := by
  rcases h with h | rfl
  · exact Nat.le_trans (num_len (by omega)) (by decide)
  · decide +kernel
theorem str_num {v : Int} (h : VOk v) : strN [.int v] = some (.str (num v)) := by
  rcases h with h | rfl
  · exact num_ev (by omega)
  · show (if (far : Int).natAbs.log2 < 1920 then some (U.str (Str.ofString (toString far))) else none) = _
    rw [if_pos (by decide +kernel)]; rfl
theorem rr_pops (c : Nat) {v : Int} (h : VOk v) : Rd (rr c v) := by
  have p : Pop (pO v) (num v) := by
    rcases h with h | rfl
    · exact pop_O (by omega) (by omega)
    · exact pop_far
  unfold rr
  split
  · exact rd_pops [(pO v, num v)] rfl (one1 p) (by simp)
  · exact rd_pops [(pW sa, sa), (pO v, num v)] rfl (one2 (pop_W _) p) (by simp)
  · exact rd_pops [(pW sb, sb), (pO v, num v)] rfl (one2 (pop_W _) p) (by simp)
theorem rr_len (c : Nat) {v : Int} (h : VOk v) : (rowT (rr c v)).length ≤ 1000 := by
  rw [rr_text, Str.length_append]
  have := wT_len c
  have := num_len2 h
  omega
theorem rr_pos {v : Int} (h : VOk v) : 0 < v := by
  rcases h with h | rfl
  · exact h.1
  · decide
theorem rr_k (c : Nat) {v : Int} (h : VOk v) : LK (rwL (rr c v)) := rwL_far (rr_pops c h) (rr_ok c (rr_pos h)) (rr_len c h)
theorem rr_A (c : Nat) {v : Int} (h : VOk v) : RowA (rr c v) := ⟨rr_k c h, rr_ok c (rr_pos h), rr_lv c v⟩
theorem count_A : RowA .count := ⟨rwL_k ⟨rfl, by decide⟩, rfl, fun w h => nomatch h⟩
theorem ls_rows (n at_ : Nat) {r : Row} (hr : RowA r) (hl : (rowT r).length ≤ 1000) : ∀ L ∈ rowsL n at_ r, LS L := fun L hL => by
  unfold rowsL at hL
  rcases List.mem_cons.mp hL with rfl | hL
  · exact ls_head (by decide +kernel)
  · obtain ⟨x, hx, rfl⟩ := List.mem_map.mp hL
    rcases List.mem_or_eq_of_mem_set hx with h | rfl
    · rw [List.eq_of_mem_replicate h]; exact ⟨count_A.k, by decide +kernel⟩
    · exact ⟨hr.k, hl⟩
/-- the rows' texts -/
def oneT (n at_ : Nat) (x : Str) : List Str := (List.replicate n (Str.ofString "count")).set at_ x
theorem oneT_eq (n at_ : Nat) (r : Row) : (rowsL n at_ r).map Line.T = hT sa :: oneT n at_ (rowT r) := by
  unfold rowsL oneT oneR
  rw [List.map_cons, List.map_map, show (hdL (pc sa)).T = Txt.join sp (headW (pc sa)) from rfl, head_text]
  congr 1
  rw [List.map_set, List.map_replicate]; rfl
end T_allcallers_k13_ends_and_bounds
namespace T_allcallers_k13_ends_and_bounds
open PySem L2 D C TX TL
def dueR (many at_ : Nat) (g : Int) : U := if 60 < many then .int 61 else if (at_ : Int) + 1 + g ≤ many then .lst [.int many] else .int (1 + (at_ : Int))
theorem dueR_ok (many at_ : Nat) (g : Int) : eqOk 3 (dueR many at_ g) = true := by
  unfold dueR
  split
  · rfl
  · split <;> rfl
theorem dueR_told {many at_ : Nat} (h : at_ < many) {r : Row} (hr : RowA r) : toldU (readS (rowsL many at_ r)) = dueR many at_ r.goes := by
  unfold dueR
  by_cases q : 60 < many
  · rw [if_pos q]
    have := told_far (at_ := at_) hr q []
    rw [List.append_nil] at this
    exact this
  · rw [if_neg q]
    by_cases g : (at_ : Int) + 1 + r.goes ≤ many
    · rw [if_pos g]; exact (told_ok h hr (by omega) g).1
    · rw [if_neg g]; exact (told_no_good h hr (by omega) g).1
theorem noneL_k : LS (noL (Str.ofString "none")) := ⟨⟨noL_ok _ (Str.ofString "none") [] (by decide +kernel) (by decide +kernel) (by decide +kernel) (by decide +kernel), by decide +kernel⟩, by decide +kernel⟩
theorem X_b2 : TX.nl ++ Txt.join TX.nl ([hdL (pc sb), rwL .on].map Line.T) = Str.ofString "\npiece b !\non" := by decide +kernel
theorem X_b : TX.nl ++ Txt.join TX.nl ([hdL (pc sb)].map Line.T) = Str.ofString "\npiece b !" := by decide +kernel
theorem X_a : TX.nl ++ Txt.join TX.nl ([hdL (pc sa)].map Line.T) = Str.ofString "\npiece a !" := by decide +kernel
theorem X_n : TX.nl ++ Txt.join TX.nl ([noL (Str.ofString "none")].map Line.T) = Str.ofString "\nnone" := by decide +kernel
theorem add_strs {a b : Str} (h : a.length + b.length ≤ 16777216) : add2 (.str a) (.str b) = some (.str (a ++ b)) := if_pos (by rw [sizeLine_val]; exact h)
set_option maxHeartbeats 2000000 in
theorem ro_tail (n many at_ : Nat) (h : at_ < many) (hm : many ≤ 62) {r : Row} (hr : RowA r) (hl : (rowT r).length ≤ 1000) (s2 s3 s4 s7 s8 : Sl) (st : Store) :
    ∃ st', (sSeq roS8 (sSeq roS9 (sSeq roS10 (sSeq roS11 (sSeq roS12 sNil))))) [.val (.ref n), .val (.int (many : Int)), s2, s3, s4, .own ((oneT many at_ (rowT r)).map U.str), .val (dueR many at_ r.goes), s7, s8] st = .rt (.bl true) st' ∧ Pre st st' := by
  have hTT := oneT_eq many at_ r
  have ls := ls_rows many at_ hr hl
  have len := rowsL_len many at_ r
  have ne : rowsL many at_ r ≠ [] := fun z => by rw [z] at len; cases len
  have hj : join2 (Str.ofString "\n") (.lst (.str (Str.ofString "piece a !") :: (oneT many at_ (rowT r)).map U.str)) = some (.str (Txt.join TX.nl ((rowsL many at_ r).map Line.T))) := by
    have e : U.str (Str.ofString "piece a !") :: (oneT many at_ (rowT r)).map U.str = ((rowsL many at_ r).map Line.T).map U.str := by
      rw [hTT, List.map_cons, show hT sa = Str.ofString "piece a !" by decide +kernel]
    rw [e]
    refine join_ev TX.nl ((rowsL many at_ r).map Line.T) 1000 (fun t ht => ?_) ?_
    · obtain ⟨L, hL, rfl⟩ := List.mem_map.mp ht
      exact (ls L hL).l
    · rw [List.length_map, len, nl_len]; omega
  obtain ⟨st1, e1, p1⟩ := told_ls ne (by omega) ls st
  rw [dueR_told h hr] at e1
  have d9 := ne2_refl (dueR_ok many at_ r.goes) (by decide)
  have lo : ((oneT many at_ (rowT r)).map U.str).length + 1 ≤ 16777216 := by unfold oneT; simp; omega
  have lsb : LS (hdL (pc sb)) := ls_head (by decide +kernel)
  have lsa : LS (hdL (pc sa)) := ls_head (by decide +kernel)
  have cat := fun (Bs : List Line) (hb : Bs ≠ []) (hz : Bs.length ≤ 10) (hk : ∀ L ∈ Bs, LS L) X hX st => told_cat ne hb (by omega) (fun L hL => by
    rcases List.mem_append.mp hL with q | q
    · exact ls L q
    · exact hk L q) X hX st
  have c2 := fun st => cat [hdL (pc sb), rwL .on] (by simp) (by simp) (fun L hL => by
    rcases List.mem_cons.mp hL with rfl | q
    · exact lsb
    · rw [List.mem_singleton.mp q]; exact ls_on) _ X_b2 st
  have cb := fun st => cat [hdL (pc sb)] (by simp) (by simp) (fun L hL => by rw [List.mem_singleton.mp hL]; exact lsb) _ X_b st
  have ca := fun st => cat [hdL (pc sa)] (by simp) (by simp) (fun L hL => by rw [List.mem_singleton.mp hL]; exact lsa) _ X_a st
  have cn := fun st => cat [noL (Str.ofString "none")] (by simp) (by simp) (fun L hL => by rw [List.mem_singleton.mp hL]; exact noneL_k) _ X_n st
  have s8 : roS8 [.val (.ref n), .val (.int (many : Int)), s2, s3, s4, .own ((oneT many at_ (rowT r)).map U.str), .val (dueR many at_ r.goes), s7, s8] st = .nx [.val (.ref n), .val (.int (many : Int)), s2, s3, s4, .val (.lst ((oneT many at_ (rowT r)).map U.str)), .val (dueR many at_ r.goes), .val (.str (Txt.join TX.nl ((rowsL many at_ r).map Line.T))), s8] st := by
    generalize (oneT many at_ (rowT r)).map U.str = OT at *
    generalize Txt.join TX.nl ((rowsL many at_ r).map Line.T) = T0 at *
    unfold roS8
    have lo' : OT.length + 1 ≤ 16777216 := lo
    have lo2 : 1 + OT.length ≤ 16777216 := by omega
    simp [frzE, frz1, szL, joinD, hj, lo', lo2]
  rw [chain s8]
  generalize (oneT many at_ (rowT r)).map U.str = OT at *
  generalize Txt.join TX.nl ((rowsL many at_ r).map Line.T) = T0 at *
  have s9 : ∀ a8 : Sl, roS9 [.val (.ref n), .val (.int (many : Int)), s2, s3, s4, .val (.lst OT), .val (dueR many at_ r.goes), .val (.str T0), a8] st = .nx [.val (.ref n), .val (.int (many : Int)), s2, s3, s4, .val (.lst OT), .val (dueR many at_ r.goes), .val (.str T0), a8] st1 := fun a8 => by
    generalize dueR many at_ r.goes = DU at *
    unfold roS9
    simp [e1, d9]
  rw [chain (s9 _)]
  by_cases q : 60 < many
  · -- beyond the rows that a piece may have
    have hd : dueR many at_ r.goes = .int 61 := if_pos q
    rw [hd]
    obtain ⟨⟨st2, e2, p2⟩, z2⟩ := ca st1
    obtain ⟨⟨st3, e3, p3⟩, z3⟩ := cn st2
    rw [told_far hr q] at e2 e3
    refine ⟨st3, ?_, fun i o e => p3 i o (p2 i o (p1 i o e))⟩
    have a1 := add_strs z2
    have a2 := add_strs z3
    have i1 : isiN [.int 61, .ty "list"] = some (.bl false) := rfl
    have q' : (60 : Int) < (many : Int) := by omega
    have e2 : f_l_told [.str (T0 ++ Str.ofString "\npiece a !")] st1 = .ok (.int 61) st2 := e2
    have e3 : f_l_told [.str (T0 ++ Str.ofString "\nnone")] st2 = .ok (.int 61) st3 := e3
    generalize T0 ++ Str.ofString "\npiece a !" = TA at *
    generalize T0 ++ Str.ofString "\nnone" = TN at *
    unfold roS10 roS11 roS12
    simp [i1, szL, q', a1, a2, e2, e3, intN]
  · by_cases g : (at_ : Int) + 1 + r.goes ≤ many
    · have hd : dueR many at_ r.goes = .lst [.int many] := by unfold dueR; rw [if_neg q, if_pos g]
      rw [hd]
      obtain ⟨t1, t2, t3⟩ := told_ok h hr (by omega) g
      obtain ⟨⟨st2, e2, p2⟩, z2⟩ := c2 st1
      obtain ⟨⟨st3, e3, p3⟩, z3⟩ := cb st2
      rw [t2] at e2
      rw [t3] at e3
      refine ⟨st3, ?_, fun i o e => p3 i o (p2 i o (p1 i o e))⟩
      have a1 := add_strs z2
      have a2 := add_strs z3
      have i1 : isiN [.lst [.int (many : Int)], .ty "list"] = some (.bl true) := rfl
      have ad : add2 (.lst [.int (many : Int)]) (.lst [.int 1]) = some (.lst [.int (many : Int), .int 1]) := by simp [add2]
      have eq : eq2 (.lst [.int (many : Int), .int 1]) (.lst [.int (many : Int), .int 1]) = some (.bl true) := eqI [(many : Int), 1]
      generalize U.lst [.int (many : Int), .int 1] = DL2 at *
      generalize U.lst [.int (many : Int)] = DL1 at *
      generalize T0 ++ Str.ofString "\npiece b !\non" = TA at *
      generalize T0 ++ Str.ofString "\npiece b !" = TN at *
      unfold roS10
      simp [i1, szL, ad, a1, a2, e2, e3, eq]
    · have hd : dueR many at_ r.goes = .int (1 + (at_ : Int)) := by unfold dueR; rw [if_neg q, if_neg g]
      rw [hd]
      obtain ⟨t1, t2, t3⟩ := told_no_good h hr (by omega) g
      obtain ⟨⟨st2, e2, p2⟩, z2⟩ := ca st1
      obtain ⟨⟨st3, e3, p3⟩, z3⟩ := cn st2
      rw [t2] at e2
      rw [t3] at e3
      refine ⟨st3, ?_, fun i o e => p3 i o (p2 i o (p1 i o e))⟩
      have a1 := add_strs z2
      have a2 := add_strs z3
      have i1 : isiN [.int (1 + (at_ : Int)), .ty "list"] = some (.bl false) := rfl
      have q' : ¬ (60 : Int) < (many : Int) := by omega
      generalize T0 ++ Str.ofString "\npiece a !" = TA at *
      generalize T0 ++ Str.ofString "\nnone" = TN at *
      unfold roS10 roS11 roS12
      simp [i1, szL, q', a1, a2, e2, e3, intN]
end T_allcallers_k13_ends_and_bounds
namespace T_allcallers_k13_ends_and_bounds
open PySem L2 D C TX TL
theorem oneT_same (n at_ : Nat) (x : Str) (h : x = Str.ofString "count") : oneT n at_ x = List.replicate n (Str.ofString "count") := by
  subst h
  unfold oneT
  apply List.ext_getElem?
  intro i
  rw [List.getElem?_set]
  split
  · rename_i e
    subst e
    rw [List.length_replicate, List.getElem?_replicate]
  · rfl
theorem ro5 (n many : Nat) (hm : many ≤ 62) (s2 s3 s4 s5 s6 s7 s8 : Sl) (st : Store) : roS5 [.val (.ref n), .val (.int (many : Int)), s2, s3, s4, s5, s6, s7, s8] st = .nx [.val (.ref n), .val (.int (many : Int)), s2, s3, s4, .own ((List.replicate many (Str.ofString "count")).map U.str), s6, s7, s8] st := by
  have e : (List.replicate many [U.str (Str.ofString "count")]).flatten = (List.replicate many (Str.ofString "count")).map U.str := by
    clear hm
    induction many with
    | zero => rfl
    | succ k ih => rw [List.replicate_succ, List.flatten_cons, ih]; rfl
  have m1 : mulU (.lst [.str (Str.ofString "count")]) (.int (many : Int)) = some ((List.replicate many (Str.ofString "count")).map U.str) := by
    simp only [mulU]
    rw [if_pos ⟨by omega, by omega, by show 1 * _ ≤ _; rw [sizeLine_val, Int.toNat_natCast]; omega⟩, Int.toNat_natCast, e]
  generalize (List.replicate many (Str.ofString "count")).map U.str = RP at *
  unfold roS5
  simp [szL, m1]
theorem ro6 (n many : Nat) (s2 s3 s4 s5 s6 s7 s8 : Sl) (st : Store) : roS6 [.val (.ref n), .val (.int (many : Int)), s2, s3, s4, s5, s6, s7, s8] st = .nx [.val (.ref n), .val (.int (many : Int)), s2, s3, s4, s5, .val (if 60 < many then .int 61 else .lst [.int many]), s7, s8] st := by
  unfold roS6
  by_cases q : 60 < many
  · have q' : (60 : Int) < (many : Int) := by omega
    simp [szL, q, q', intN]
  · have q' : ¬ (60 : Int) < (many : Int) := by omega
    simp [szL, q, q', intN]
theorem ro3 (n many at_ : Nat) (h : at_ < many) (hm : many ≤ 62) {k : Nat} (hk : k < 3) (s4 s5 s6 s7 s8 : Sl) (st st' : Store) (hd : f_l_draw [.ref n, .int 3] st = .ok (.int (k : Int)) st') :
    ∃ v : Int, roS3 [.val (.ref n), .val (.int (many : Int)), .val (.int (at_ : Int)), .un, s4, s5, s6, s7, s8] st = .nx [.val (.ref n), .val (.int (many : Int)), .val (.int (at_ : Int)), .val (.int v), s4, s5, s6, s7, s8] st' ∧ (v = 0 ∨ VOk v) := by
  have pw : pow2 (.int 10) (.int 30) = some (.int far) := by
    simp only [pow2]
    rw [if_pos ⟨by decide, by decide, by decide⟩]; rfl
  have c : k = 0 ∨ k = 1 ∨ k = 2 := by omega
  unfold roS3
  rcases c with rfl | rfl | rfl
  · refine ⟨(many : Int) - 1 - at_, by
      have hd : f_l_draw [.ref n, .int 3] st = .ok (.int 0) st' := hd
      simp [szL, pw, hd], ?_⟩
    by_cases q : (many : Int) - 1 - at_ = 0
    · exact .inl q
    · exact .inr (.inl ⟨by omega, by omega⟩)
  · exact ⟨(many : Int) - at_, by
      have hd : f_l_draw [.ref n, .int 3] st = .ok (.int 1) st' := hd
      simp [szL, pw, hd], .inr (.inl ⟨by omega, by omega⟩)⟩
  · exact ⟨far, by
      have hd : f_l_draw [.ref n, .int 3] st = .ok (.int 2) st' := hd
      have i2 : ix2 (.lst [.int ((many : Int) - 1 - at_), .int ((many : Int) - at_), .int far]) (.int 2) = some (.int far) := rfl
      generalize far = FR at *
      simp [szL, pw, hd, i2], .inr (.inr rfl)⟩
theorem ro4 (n : Nat) {k : Nat} (hk : k < 3) (s1 s2 s3 s5 s6 s7 s8 : Sl) (st st' : Store) (hd : f_l_draw [.ref n, .int 3] st = .ok (.int (k : Int)) st') : roS4 [.val (.ref n), s1, s2, s3, .un, s5, s6, s7, s8] st = .nx [.val (.ref n), s1, s2, s3, .val (.str (wT k)), s5, s6, s7, s8] st' := by
  have c : k = 0 ∨ k = 1 ∨ k = 2 := by omega
  unfold roS4
  rcases c with rfl | rfl | rfl
  · have hd : f_l_draw [.ref n, .int 3] st = .ok (.int 0) st' := hd
    simp [szL, hd, wT]
  · have hd : f_l_draw [.ref n, .int 3] st = .ok (.int 1) st' := hd
    simp [szL, hd, wT]
  · have hd : f_l_draw [.ref n, .int 3] st = .ok (.int 2) st' := hd
    have i2 : ix2 (.lst [.str (Str.ofString "over "), .str (Str.ofString "skip a "), .str (Str.ofString "ask b ")]) (.int 2) = some (.str (wT 2)) := rfl
    generalize wT 2 = W at *
    simp [szL, hd, i2]
theorem ro7 (n many at_ : Nat) (h : at_ < many) (hm : many ≤ 62) (v : Int) (hv : v = 0 ∨ VOk v) (c : Nat) (s7 s8 : Sl) (st : Store) :
    ∃ r, RowA r ∧ (rowT r).length ≤ 1000 ∧ roS7 [.val (.ref n), .val (.int (many : Int)), .val (.int (at_ : Int)), .val (.int v), .val (.str (wT c)), .own ((List.replicate many (Str.ofString "count")).map U.str), .val (if 60 < many then .int 61 else .lst [.int many]), s7, s8] st = .nx [.val (.ref n), .val (.int (many : Int)), .val (.int (at_ : Int)), .val (.int v), .val (.str (wT c)), .own ((oneT many at_ (rowT r)).map U.str), .val (dueR many at_ r.goes), s7, s8] st := by
  rcases hv with rfl | hv
  · refine ⟨.count, count_A, by decide +kernel, ?_⟩
    rw [oneT_same _ _ _ (show rowT .count = Str.ofString "count" by decide +kernel)]
    have e : dueR many at_ Row.count.goes = if 60 < many then .int 61 else .lst [.int many] := by
      unfold dueR
      split
      · rfl
      · rw [if_pos (by show (at_ : Int) + 1 + 0 ≤ _; omega)]
    rw [e]
    generalize (List.replicate many (Str.ofString "count")).map U.str = RP at *
    generalize (if 60 < many then U.int 61 else .lst [.int many]) = DU at *
    unfold roS7
    simp
  · refine ⟨rr c v, rr_A c hv, rr_len c hv, ?_⟩
    have hp := rr_pos hv
    have sn := str_num hv
    have ad : add2 (.str (wT c)) (.str (num v)) = some (.str (rowT (rr c v))) := by
      rw [rr_text]
      exact add_strs (by have := wT_len c; have := num_len2 hv; omega)
    have e1 : (oneT many at_ (rowT (rr c v))).map U.str = ((List.replicate many (Str.ofString "count")).map U.str).set at_ (.str (rowT (rr c v))) := by
      unfold oneT; rw [List.map_set]
    have ix : ixN ((List.replicate many (Str.ofString "count")).map U.str).length (at_ : Int) = some at_ := by
      unfold ixN
      rw [List.length_map, List.length_replicate, if_pos (by omega), if_pos (by omega)]
      congr 1
    rw [e1, rr_goes]
    generalize (List.replicate many (Str.ofString "count")).map U.str = RP at *
    generalize rowT (rr c v) = RT at *
    generalize num v = NV at *
    unfold roS7 dueR
    by_cases q : 60 < many
    · have q1 : ¬ (many : Int) < 61 := by omega
      simp [hp, sn, ad, ix, q, q1]
    · have q1 : (many : Int) < 61 := by omega
      by_cases g : (at_ : Int) + 1 + v ≤ many
      · have g1 : ¬ (many : Int) - at_ ≤ v := by omega
        simp [hp, sn, ad, ix, q, q1, g, g1]
      · have g1 : (many : Int) - at_ ≤ v := by omega
        simp [hp, sn, ad, ix, q, q1, g, g1]
theorem rows_ev {n : Nat} {st : Store} (h : Hd n st) : ∃ st', f_l_rows [.ref n] st = .ok (.bl true) st' ∧ Hd n st' := by
  obtain ⟨r1, st1, d1, l1, h1⟩ := draw_hd h 5 (by decide) (by decide)
  obtain ⟨many, hmany⟩ : ∃ m, m = 58 + r1 := ⟨_, rfl⟩
  obtain ⟨at_, st2, d2, l2, h2⟩ := draw_hd h1 many (by omega) (by omega)
  obtain ⟨k3, st3, d3, l3, h3⟩ := draw_hd h2 3 (by decide) (by decide)
  obtain ⟨k4, st4, d4, l4, h4⟩ := draw_hd h3 3 (by decide) (by decide)
  obtain ⟨v, e3, hv⟩ := ro3 n many at_ l2 (by omega) l3 .un .un .un .un .un st2 st3 d3
  have e4 := ro4 n l4 (.val (.int (many : Int))) (.val (.int (at_ : Int))) (.val (.int v)) .un .un .un .un st3 st4 d4
  have e5 := ro5 n many (by omega) (.val (.int (at_ : Int))) (.val (.int v)) (.val (.str (wT k4))) .un .un .un .un st4
  have e6 := ro6 n many (.val (.int (at_ : Int))) (.val (.int v)) (.val (.str (wT k4))) (.own ((List.replicate many (Str.ofString "count")).map U.str)) .un .un .un st4
  obtain ⟨r, hr, hl, e7⟩ := ro7 n many at_ l2 (by omega) v hv k4 .un .un st4
  obtain ⟨st5, e8, p⟩ := ro_tail n many at_ l2 (by omega) hr hl (.val (.int (at_ : Int))) (.val (.int v)) (.val (.str (wT k4))) .un .un st4
  refine ⟨st5, ?_, h4.pre p⟩
  have s1 : roS1 [.val (.ref n), .un, .un, .un, .un, .un, .un, .un, .un] st = .nx [.val (.ref n), .val (.int (many : Int)), .un, .un, .un, .un, .un, .un, .un] st1 := by
    have d1 : f_l_draw [.ref n, .int 5] st = .ok (.int (r1 : Int)) st1 := d1
    have e : (58 : Int) + (r1 : Int) = (many : Int) := by omega
    unfold roS1
    simp [d1, e]
  have s2 : roS2 [.val (.ref n), .val (.int (many : Int)), .un, .un, .un, .un, .un, .un, .un] st1 = .nx [.val (.ref n), .val (.int (many : Int)), .val (.int (at_ : Int)), .un, .un, .un, .un, .un, .un] st2 := by
    unfold roS2
    simp [d2]
  show fin (b_l_rows [.val (.ref n), .un, .un, .un, .un, .un, .un, .un, .un] st) = _
  rw [roS_eq, chain s1, chain s2, chain e3, chain e4, chain e5, chain e6, chain e7, e8]
  rfl
end T_allcallers_k13_ends_and_bounds
namespace T_allcallers_k13_ends_and_bounds
open PySem L2 D C TX TL
def leS1 : DS := (sSet 1 (bin add2 (cst (.int 7)) (appU f_l_draw (acons (var 0) (acons (cst (.int 4)) anil)))))
def leS2 : DS := (sSet 2 (appU f_l_draw (acons (var 0) (acons (cst (.int 600)) anil))))
def leS3 : DS := (sSet 3 (newL (compD (itA rng1 (acons (var 1) anil)) [10] (tgN 10) yesT (appU f_l_word (acons (bin add2 (var 2) (var 10)) anil)))))
def leS4 : DS := (sSet 4 (newL (itE sortTxt (slD (var 3) noO (soO (appU f_l_draw (acons (var 0) (acons (cst (.int 5)) anil))))))))
def leS5 : DS := (sOwn 5 (szDL (acons (bin add2 (cst (.str (Str.ofString "piece a ! "))) (joinD (cst (.str (Str.ofString " "))) (var 4))) anil)))
def leS6 : DS := (sIf (tst (bin eq2 (var 4) (appN szL anil))) (sSeq (sOwn 5 (szDL (acons (cst (.str (Str.ofString "piece a !"))) anil))) sNil) sNil)
def leS7 : DS := (sSet 6 (appN lenN (acons (var 4) anil)))
def leS8 : DS := (sSet 7 (cst .non))
def leS9 : DS := (sFor (itemsD (var 3)) (tgN 8) t1_l_leaves)
def leS10 : DS := (sApp 5 (cst (.str (Str.ofString "on"))))
def leS11 : DS := (sIf (tst (bin is2 (var 7) (cst .non))) (sSeq (sSet 7 (appN szL (acons (bin sub2 (lenP 5) (cst (.int 1))) anil))) sNil) sNil)
def leS12 : DS := (frzS 5 (sRet (bin eq2 (appU f_l_told (acons (joinD (cst (.str (Str.ofString "\n"))) (var 5)) anil)) (var 7))))
theorem leS_eq : b_l_leaves = sSeq leS1 (sSeq leS2 (sSeq leS3 (sSeq leS4 (sSeq leS5 (sSeq leS6 (sSeq leS7 (sSeq leS8 (sSeq leS9 (sSeq leS10 (sSeq leS11 (sSeq leS12 sNil))))))))))) := rfl
def lfS1 : DS := (sOwn 9 (szDL (acons (bin add2 (bin add2 (cst (.str (Str.ofString "ask "))) (var 8)) (cst (.str (Str.ofString " 1")))) (acons (bin add2 (bin add2 (cst (.str (Str.ofString "deed "))) (var 8)) (cst (.str (Str.ofString " x")))) (acons (bin add2 (bin add2 (cst (.str (Str.ofString "done "))) (var 8)) (cst (.str (Str.ofString " x")))) (acons (bin add2 (cst (.str (Str.ofString "call x y ! "))) (var 8)) anil))))))
def lfS2 : DS := (sApp 9 (bin add2 (cst (.str (Str.ofString "last x ! "))) (var 8)))
def lfS3 : DS := (frzS 9 (sApp 5 (bin ix2 (var 9) (appU f_l_draw (acons (var 0) (acons (cst (.int 5)) anil))))))
def lfS4 : DS := (sSet 6 (bin add2 (var 6) (appN intN (acons (bin nin2 (var 8) (var 4)) anil))))
def lfS5 : DS := (sIf (andT (tst (bin eq2 (var 6) (cst (.int 9)))) (tst (bin is2 (var 7) (cst .non)))) (sSeq (sSet 7 (bin sub2 (lenP 5) (cst (.int 1)))) sNil) sNil)
theorem lfS_eq : t1_l_leaves = sSeq lfS1 (sSeq lfS2 (sSeq lfS3 (sSeq lfS4 (sSeq lfS5 sNil)))) := rfl
def kT (c : Nat) (w : Str) : Str := match c with
  | 0 => Str.ofString "ask " ++ w ++ Str.ofString " 1"
  | 1 => Str.ofString "deed " ++ w ++ Str.ofString " x"
  | 2 => Str.ofString "done " ++ w ++ Str.ofString " x"
  | 3 => Str.ofString "call x y ! " ++ w
  | _ => Str.ofString "last x ! " ++ w
theorem rk_text (c : Nat) (w : Str) : rowT (rk c w) = kT c w := by
  unfold rk kT
  split
  · have e1 : rowT (.ask w 1) = Str.ofString "ask" ++ sp ++ (w ++ sp ++ num 1) := jn3 _ _ _
    have e2 : Str.ofString "ask" ++ sp = Str.ofString "ask " := by decide +kernel
    have e3 : sp ++ num 1 = Str.ofString " 1" := by decide +kernel
    (rw [e1, e2, str_assoc w, e3, ← str_assoc]; all_goals rfl)
  · have e1 : rowT (.deed w sx) = Str.ofString "deed" ++ sp ++ (w ++ sp ++ sx) := jn3 _ _ _
    have e2 : Str.ofString "deed" ++ sp = Str.ofString "deed " := by decide +kernel
    have e3 : sp ++ sx = Str.ofString " x" := by decide +kernel
    (rw [e1, e2, str_assoc w, e3, ← str_assoc]; all_goals rfl)
  · have e1 : rowT (.done w sx) = Str.ofString "done" ++ sp ++ (w ++ sp ++ sx) := jn3 _ _ _
    have e2 : Str.ofString "done" ++ sp = Str.ofString "done " := by decide +kernel
    have e3 : sp ++ sx = Str.ofString " x" := by decide +kernel
    (rw [e1, e2, str_assoc w, e3, ← str_assoc]; all_goals rfl)
  · have e1 : rowT (.call sx sy [] [w]) = Str.ofString "call" ++ sp ++ (sx ++ sp ++ (sy ++ sp ++ (bang ++ sp ++ w))) := jn5 _ _ _ _ _
    have e2 : Str.ofString "call" ++ sp ++ (sx ++ sp ++ (sy ++ sp ++ (bang ++ sp))) = Str.ofString "call x y ! " := by decide +kernel
    rw [e1, ← e2]; simp only [str_assoc]
  · have e1 : rowT (.last sx [] [w]) = Str.ofString "last" ++ sp ++ (sx ++ sp ++ (bang ++ sp ++ w)) := jn4 _ _ _ _
    have e2 : Str.ofString "last" ++ sp ++ (sx ++ sp ++ (bang ++ sp)) = Str.ofString "last x ! " := by decide +kernel
    rw [e1, ← e2]; simp only [str_assoc]
/-- the head of a piece with leaves -/
def hA (os : List Str) : Str := if os = [] then Str.ofString "piece a !" else Str.ofString "piece a ! " ++ Txt.join sp os
theorem hA_text (os : List Str) : Txt.join sp (headW (hdA os)) = hA os := by
  unfold hA
  by_cases q : os = []
  · subst q
    rw [if_pos rfl]
    decide +kernel
  · rw [if_neg q]
    have e : headW (hdA os) = [Str.ofString "piece", sa, bang] ++ os := rfl
    have e2 := join_app sp (a := [Str.ofString "piece", sa, bang]) (b := os) (by simp) q
    have e3 : Str.join sp [Str.ofString "piece", sa, bang] ++ sp = Str.ofString "piece a ! " := by decide +kernel
    rw [e3] at e2
    rw [e, TL.join_eq, TL.join_eq]
    exact e2
theorem hdA_ok {os : List Str} (h : leavesS os = true) : (hdA os).ok = true := (pok_iff _).mpr ⟨(by decide +kernel : isWordS sa = true), h, (by decide +kernel : argsS [] = true), (by decide +kernel : (dedS []).length = 0), (by decide : 1 ≤ 1), (by decide : 1 ≤ 60), fun r hr => by
  have : r = Row.on := by simpa [hdA] using hr
  rw [this]; rfl, fun k hk => by
  have hk0 : k = 0 := by
    have : k < 1 := hk
    omega
  subst hk0
  show ((0 : Nat) : Int) + 1 + Row.on.goes ≤ (([Row.on] : List Row).length : Nat)
  decide⟩
theorem joinsp_len {os : List Str} (h : ∀ w ∈ os, isWordS w = true) (hl : os.length ≤ 10) : (Txt.join sp os).length ≤ 90 := by
  have := join_len sp os 8 fun w hw => word_len (h w hw)
  have e : sp.length = 1 := by decide +kernel
  rw [e] at this
  omega
theorem hA_len {os : List Str} (h : ∀ w ∈ os, isWordS w = true) (hl : os.length ≤ 10) : (hA os).length ≤ 1000 := by
  have := joinsp_len h hl
  unfold hA
  split
  · decide +kernel
  · rw [Str.length_append]
    have : (Str.ofString "piece a ! ").length = 10 := by decide +kernel
    omega
theorem leaves_T (os : List Str) (rs : List Row) : (leavesL os rs).map Line.T = hA os :: (rs.map rowT ++ [Str.ofString "on"]) := by
  unfold leavesL
  rw [List.map_cons, show (hdL (hdA os)).T = Txt.join sp (headW (hdA os)) from rfl, hA_text, List.map_map, List.map_append]
  rfl
theorem ls_leaves {os ws : List Str} {rs : List Row} (h : RsW rs ws) (hw : ∀ w ∈ ws, isWordS w = true) (ho : ∀ w ∈ os, isWordS w = true) (hl : os.length ≤ 10) (hos : leavesS os = true) : ∀ L ∈ leavesL os rs, LS L := fun L hL => by
  unfold leavesL at hL
  rcases List.mem_cons.mp hL with rfl | hL
  · exact ⟨hdL_k (hdA_ok hos), by show (Txt.join sp (headW (hdA os))).length ≤ 1000; rw [hA_text]; exact hA_len ho hl⟩
  · obtain ⟨x, hx, rfl⟩ := List.mem_map.mp hL
    rcases List.mem_append.mp hx with q | q
    · obtain ⟨c, w, h1, rfl⟩ := h.mem x q
      exact ⟨rwL_k (rk_fit c (hw w h1)), rowT_len (rk_fit c (hw w h1))⟩
    · rw [List.mem_singleton.mp q]; exact ls_on
theorem kT_add (w : Str) (h : isWordS w = true) :
    add2 (.str (Str.ofString "ask ")) (.str w) = some (.str (Str.ofString "ask " ++ w)) ∧ add2 (.str (Str.ofString "ask " ++ w)) (.str (Str.ofString " 1")) = some (.str (kT 0 w)) ∧
    add2 (.str (Str.ofString "deed ")) (.str w) = some (.str (Str.ofString "deed " ++ w)) ∧ add2 (.str (Str.ofString "deed " ++ w)) (.str (Str.ofString " x")) = some (.str (kT 1 w)) ∧
    add2 (.str (Str.ofString "done ")) (.str w) = some (.str (Str.ofString "done " ++ w)) ∧ add2 (.str (Str.ofString "done " ++ w)) (.str (Str.ofString " x")) = some (.str (kT 2 w)) ∧
    add2 (.str (Str.ofString "call x y ! ")) (.str w) = some (.str (kT 3 w)) ∧ add2 (.str (Str.ofString "last x ! ")) (.str w) = some (.str (kT 4 w)) := by
  have hl := word_len h
  have l1 : (Str.ofString "ask ").length = 4 := by decide +kernel
  have l2 : (Str.ofString "deed ").length = 5 := by decide +kernel
  have l3 : (Str.ofString "done ").length = 5 := by decide +kernel
  have l4 : (Str.ofString "call x y ! ").length = 11 := by decide +kernel
  have l5 : (Str.ofString "last x ! ").length = 9 := by decide +kernel
  have l6 : (Str.ofString " 1").length = 2 := by decide +kernel
  have l7 : (Str.ofString " x").length = 2 := by decide +kernel
  refine ⟨add_strs (by omega), add_strs (by rw [Str.length_append]; omega), add_strs (by omega), add_strs (by rw [Str.length_append]; omega), add_strs (by omega), add_strs (by rw [Str.length_append]; omega), add_strs (by omega), add_strs (by omega)⟩
def dU (b : Bool) : U := if b = true then .int 9 else .non
set_option maxHeartbeats 1000000 in
/-- one turn of the leaves' loop -/
theorem lf_turn (n : Nat) (w : Str) (hw : isWordS w = true) (os : List Str) (s1 s2 s3 : Sl) (ls : List U) (hl : ls.length ≤ 100) (cnt : Nat) (b : Bool) (s9 s10 : Sl) (st : Store) (h : Hd n st) :
    ∃ c st' t9, Hd n st' ∧ t1_l_leaves [.val (.ref n), s1, s2, s3, .val (lS os), .own ls, .val (.int (cnt : Int)), .val (dU b), .val (.str w), s9, s10] st = .nx [.val (.ref n), s1, s2, s3, .val (lS os), .own (ls ++ [.str (rowT (rk c w))]), .val (.int ((cnt : Int) + (if w ∈ os then 0 else 1))), .val (if (cnt : Int) + (if w ∈ os then 0 else 1) = 9 ∧ b = false then .int (ls.length : Int) else dU b), .val (.str w), t9, s10] st' := by
  obtain ⟨c, st1, d1, l1, h1⟩ := draw_hd h 5 (by decide) (by decide)
  obtain ⟨a1, a2, a3, a4, a5, a6, a7, a8⟩ := kT_add w hw
  refine ⟨c, st1, .val (.lst [.str (kT 0 w), .str (kT 1 w), .str (kT 2 w), .str (kT 3 w), .str (kT 4 w)]), h1, ?_⟩
  have x1 : ix2 (.lst [.str (kT 0 w), .str (kT 1 w), .str (kT 2 w), .str (kT 3 w), .str (kT 4 w)]) (.int (c : Int)) = some (.str (kT c w)) := by
    have : c = 0 ∨ c = 1 ∨ c = 2 ∨ c = 3 ∨ c = 4 := by omega
    rcases this with rfl | rfl | rfl | rfl | rfl <;> rfl
  have ni : nin2 (.str w) (lS os) = some (.bl (!decide (w ∈ os))) := by
    show (if flatU (.str w) && (os.map U.str).all flatU then some (U.bl (!(os.map U.str).any fun y => eqU y (.str w))) else _) = _
    rw [flat_txt, any_txt]; rfl
  have int1 : intN [.bl (!decide (w ∈ os))] = some (.int (if w ∈ os then 0 else 1)) := by
    by_cases q : w ∈ os <;> simp [q, intN]
  rw [rk_text]
  generalize (if w ∈ os then (0 : Int) else 1) = B at *
  generalize lS os = OS at *
  generalize kT 0 w = k0 at *
  generalize kT 1 w = k1 at *
  generalize kT 2 w = k2 at *
  generalize kT 3 w = k3 at *
  generalize kT 4 w = k4 at *
  generalize kT c w = kc at *
  have d1 : f_l_draw [.ref n, .int 5] st = .ok (.int (c : Int)) st1 := d1
  have lz : ls.length < 16777216 := by omega
  rw [lfS_eq]
  have r1 : ∀ t9, lfS1 [.val (.ref n), s1, s2, s3, .val OS, .own ls, .val (.int (cnt : Int)), .val (dU b), .val (.str w), t9, s10] st = .nx [.val (.ref n), s1, s2, s3, .val OS, .own ls, .val (.int (cnt : Int)), .val (dU b), .val (.str w), .own [.str k0, .str k1, .str k2, .str k3], s10] st := fun t9 => by
    unfold lfS1; simp [a1, a2, a3, a4, a5, a6, a7]
  have r2 : lfS2 [.val (.ref n), s1, s2, s3, .val OS, .own ls, .val (.int (cnt : Int)), .val (dU b), .val (.str w), .own [.str k0, .str k1, .str k2, .str k3], s10] st = .nx [.val (.ref n), s1, s2, s3, .val OS, .own ls, .val (.int (cnt : Int)), .val (dU b), .val (.str w), .own [.str k0, .str k1, .str k2, .str k3, .str k4], s10] st := by
    unfold lfS2; simp [a8]
  have r3 : lfS3 [.val (.ref n), s1, s2, s3, .val OS, .own ls, .val (.int (cnt : Int)), .val (dU b), .val (.str w), .own [.str k0, .str k1, .str k2, .str k3, .str k4], s10] st = .nx [.val (.ref n), s1, s2, s3, .val OS, .own (ls ++ [.str kc]), .val (.int (cnt : Int)), .val (dU b), .val (.str w), .val (.lst [.str k0, .str k1, .str k2, .str k3, .str k4]), s10] st1 := by
    have f : frzE 9 [.val (.ref n), s1, s2, s3, .val OS, .own ls, .val (.int (cnt : Int)), .val (dU b), .val (.str w), .own [.str k0, .str k1, .str k2, .str k3, .str k4], s10] = [.val (.ref n), s1, s2, s3, .val OS, .own ls, .val (.int (cnt : Int)), .val (dU b), .val (.str w), .val (.lst [.str k0, .str k1, .str k2, .str k3, .str k4]), s10] := rfl
    unfold lfS3
    rw [frzS_ap, f]
    generalize U.lst [.str k0, .str k1, .str k2, .str k3, .str k4] = KL at *
    simp [d1, x1, lz]
  generalize U.lst [.str k0, .str k1, .str k2, .str k3, .str k4] = KL at *
  have r4 : lfS4 [.val (.ref n), s1, s2, s3, .val OS, .own (ls ++ [.str kc]), .val (.int (cnt : Int)), .val (dU b), .val (.str w), .val KL, s10] st1 = .nx [.val (.ref n), s1, s2, s3, .val OS, .own (ls ++ [.str kc]), .val (.int ((cnt : Int) + B)), .val (dU b), .val (.str w), .val KL, s10] st1 := by
    unfold lfS4; simp [ni, int1]
  have r5 : lfS5 [.val (.ref n), s1, s2, s3, .val OS, .own (ls ++ [.str kc]), .val (.int ((cnt : Int) + B)), .val (dU b), .val (.str w), .val KL, s10] st1 = .nx [.val (.ref n), s1, s2, s3, .val OS, .own (ls ++ [.str kc]), .val (.int ((cnt : Int) + B)), .val (if (cnt : Int) + B = 9 ∧ b = false then .int (ls.length : Int) else dU b), .val (.str w), .val KL, s10] st1 := by
    have i1 : is2 .non .non = some (.bl true) := rfl
    have i2 : is2 (.int 9) .non = some (.bl false) := rfl
    have le : ((ls ++ [U.str kc]).length : Int) - 1 = (ls.length : Int) := by simp
    unfold lfS5
    generalize (cnt : Int) + B = C at *
    by_cases q : C = 9
    · cases b
      · simp [q, i1, ownL, dU]
      · simp [q, i2, dU]
    · simp [q]
  rw [chain (r1 _), chain r2, chain r3, chain r4, chain r5]
  rfl
end T_allcallers_k13_ends_and_bounds
namespace T_allcallers_k13_ends_and_bounds
open PySem L2 D C TX TL
theorem le3 (n many first : Nat) (hm : many ≤ 13) (hf : first < 600) (s3 s4 s5 s6 s7 s8 s9 : Sl) (st : Store) : leS3 [.val (.ref n), .val (.int (many : Int)), .val (.int (first : Int)), s3, s4, s5, s6, s7, s8, s9, .un] st = .nx [.val (.ref n), .val (.int (many : Int)), .val (.int (first : Int)), .val (lS (wsN first many)), s4, s5, s6, s7, s8, s9, .un] st := by
  have hr : rng1 [U.int (many : Int)] = some ((List.range many).map fun i => U.int (i : Nat)) := rng1_nat many (by omega)
  have cm : compL (tgN 10) yesT (appU f_l_word (acons (D.bin add2 (var 2) (var 10)) anil)) ((List.range many).map fun i => U.int (i : Nat)) [.val (.ref n), .val (.int (many : Int)), .val (.int (first : Int)), s3, s4, s5, s6, s7, s8, s9, .un] st = .ok ((wsN first many).map U.str) st := by
    unfold wsN
    rw [List.map_map]
    refine comp_allM (List.range many) fun k hk => ⟨_, rfl, ?_⟩
    have hk := List.mem_range.mp hk
    have hw := word_ev (first + k) (by omega) st
    rw [show ((first + k : Nat) : Int) = (first : Int) + (k : Int) by omega] at hw
    show _ = Rs.ok (U.str (wordN (first + k))) st
    generalize wordN (first + k) = W at *
    simp [hw]
  have lz : ((wsN first many).map U.str).length ≤ 16777216 := by rw [List.length_map, ws_len]; omega
  unfold leS3
  show _ = Out.nx [.val (.ref n), .val (.int (many : Int)), .val (.int (first : Int)), .val (.lst ((wsN first many).map U.str)), s4, s5, s6, s7, s8, s9, .un] st
  generalize (wsN first many).map U.str = WL at *
  have lr : ((List.range many).map fun i => U.int (i : Nat)).length ≤ 16777216 := by simp; omega
  generalize (List.range many).map (fun i => U.int (i : Nat)) = RG at *
  simp [hr, wipeE, cm, lz, lr]
theorem le4 (n : Nat) (ws : List Str) (hl : ws.length ≤ 20) {d : Nat} (s1 s2 s5 s6 s7 s8 s9 s10 : Sl) (st st' : Store) (hd : f_l_draw [.ref n, .int 5] st = .ok (.int (d : Int)) st') : leS4 [.val (.ref n), s1, s2, .val (lS ws), .un, s5, s6, s7, s8, s9, s10] st = .nx [.val (.ref n), s1, s2, .val (lS ws), .val (lS (sortS (ws.take d))), s5, s6, s7, s8, s9, s10] st' := by
  have sl : sl3 (lS ws) none (some (d : Int)) = some (lS (ws.take d)) := by
    show sl3 (.lst (ws.map U.str)) _ _ = _
    rw [D.sl_lst, cutL_to, ← List.map_take]
  have so : sortTxt (lS (ws.take d)) = some ((sortS (ws.take d)).map U.str) := by
    unfold sortTxt
    show (strsU ((ws.take d).map U.str)).bind _ = _
    rw [strs_map]
    show (if _ then _ else _) = _
    rw [if_pos (by rw [List.length_take]; omega)]
  unfold leS4
  show _ = Out.nx [.val (.ref n), s1, s2, .val (lS ws), .val (.lst ((sortS (ws.take d)).map U.str)), s5, s6, s7, s8, s9, s10] st'
  generalize (sortS (ws.take d)).map U.str = SO at *
  generalize lS (ws.take d) = TK at *
  generalize lS ws = WS at *
  simp [sl, so, hd]
theorem le56 (n : Nat) (os : List Str) (ho : ∀ w ∈ os, isWordS w = true) (hl : os.length ≤ 10) (s1 s2 s3 s5 s6 s7 s8 s9 s10 : Sl) (rest : DS) (st : Store) : sSeq leS5 (sSeq leS6 rest) [.val (.ref n), s1, s2, s3, .val (lS os), s5, s6, s7, s8, s9, s10] st = rest [.val (.ref n), s1, s2, s3, .val (lS os), .own [.str (hA os)], s6, s7, s8, s9, s10] st := by
  have hj := join_ev sp os 8 (fun w hw => word_len (ho w hw)) (by
    have e : sp.length = 1 := by decide +kernel
    rw [e]; omega)
  have jl := joinsp_len ho hl
  have ad : add2 (.str (Str.ofString "piece a ! ")) (.str (Txt.join sp os)) = some (.str (Str.ofString "piece a ! " ++ Txt.join sp os)) := add_strs (by
    have : (Str.ofString "piece a ! ").length = 10 := by decide +kernel
    omega)
  have hj : join2 (Str.ofString " ") (lS os) = some (.str (Txt.join sp os)) := hj
  have r5 : leS5 [.val (.ref n), s1, s2, s3, .val (lS os), s5, s6, s7, s8, s9, s10] st = .nx [.val (.ref n), s1, s2, s3, .val (lS os), .own [.str (Str.ofString "piece a ! " ++ Txt.join sp os)], s6, s7, s8, s9, s10] st := by
    unfold leS5
    generalize Str.ofString "piece a ! " ++ Txt.join sp os = T1 at *
    generalize Txt.join sp os = T2 at *
    generalize lS os = OS at *
    simp [joinD, hj, ad]
  rw [chain r5]
  refine chain ?_
  unfold leS6 hA
  cases os with
  | nil =>
    have e : eq2 (lS []) (.lst []) = some (.bl true) := rfl
    generalize Str.ofString "piece a ! " ++ Txt.join sp [] = T1 at *
    generalize lS [] = OS at *
    simp [szL, e]
  | cons w os =>
    have e : eq2 (lS (w :: os)) (.lst []) = some (.bl false) := eq_cons _ _
    rw [if_neg (by simp)]
    generalize Str.ofString "piece a ! " ++ Txt.join sp (w :: os) = T1 at *
    generalize lS (w :: os) = OS at *
    simp [szL, e]
/-- the loop over the words -/
theorem le9 (n : Nat) (ws : List Str) (hw : ∀ w ∈ ws, isWordS w = true) (hn : ws.Nodup) (hl : ws.length ≤ 13) (d : Nat) (hd : d ≤ 4) (hd2 : d ≤ ws.length) (os : List Str) (hos : ∀ w, w ∈ os ↔ w ∈ ws.take d) (s1 s2 : Sl) (s8 s9 s10 : Sl) (st : Store) (h : Hd n st) :
    ∃ rs t8 t9 t10 st' cnt, RsW rs ws ∧ Hd n st' ∧ leS9 [.val (.ref n), s1, s2, .val (lS ws), .val (lS os), .own [.str (hA os)], .val (.int (d : Int)), .val .non, s8, s9, s10] st = .nx [.val (.ref n), s1, s2, .val (lS ws), .val (lS os), .own (.str (hA os) :: (rs.map rowT).map U.str), .val (.int cnt), .val (dU (decide (9 ≤ ws.length))), t8, t9, t10] st' := by
  obtain ⟨env', st', e, dn, rs, c8, c9, c10, cnt, hdn, hrs, he, hcnt, hst⟩ := G2.for_stL (t := tgN 8) (b := t1_l_leaves) (f := U.str) (fun rest env s => ∃ (dn : List Str) (rs : List Row) (c8 c9 c10 : Sl) (cnt : Nat), ws = dn ++ rest ∧ RsW rs dn ∧ env = [.val (.ref n), s1, s2, .val (lS ws), .val (lS os), .own (.str (hA os) :: (rs.map rowT).map U.str), .val (.int (cnt : Int)), .val (dU (decide (9 ≤ dn.length))), c8, c9, c10] ∧ cnt = max d dn.length ∧ Hd n s) ws [.val (.ref n), s1, s2, .val (lS ws), .val (lS os), .own [.str (hA os)], .val (.int (d : Int)), .val .non, s8, s9, s10] st ⟨[], [], s8, s9, s10, d, rfl, .nil, rfl, by simp, h⟩ (fun w rest env s hwm ⟨dn, rs, c8, c9, c10, cnt, hws, hrs, he, hcnt, hs⟩ => by
    have hlen : dn.length + (rest.length + 1) = ws.length := by
      have := congrArg List.length hws
      rw [List.length_append, List.length_cons] at this
      omega
    have hrl := hrs.len
    obtain ⟨c, st1, t9, h1, e1⟩ := lf_turn n w (hw w hwm) os s1 s2 (.val (lS ws)) (.str (hA os) :: (rs.map rowT).map U.str) (by simp; omega) cnt (decide (9 ≤ dn.length)) c9 c10 s hs
    have hin : w ∈ os ↔ dn.length < d := by
      rw [hos]
      have hat : ws[dn.length]? = some w := by rw [hws]; simp
      constructor
      · intro z
        obtain ⟨i, hi⟩ := List.getElem?_of_mem z
        have hi2 : i < d := by
          have := (List.getElem?_eq_some_iff.mp hi).1
          rw [List.length_take] at this; omega
        rw [List.getElem?_take_of_lt hi2] at hi
        have il : i < ws.length := (List.getElem?_eq_some_iff.mp hi).1
        have dl : dn.length < ws.length := by omega
        have e1 := (List.getElem?_eq_some_iff.mp hi).2
        have e2 := (List.getElem?_eq_some_iff.mp hat).2
        have : i = dn.length := (List.getElem_inj hn).mp (e1.trans e2.symm)
        omega
      · intro z
        exact List.mem_of_getElem? (i := dn.length) (by rw [List.getElem?_take_of_lt z]; exact hat)
    refine ⟨_, _, st1, rfl, ?_, dn ++ [w], rs ++ [rk c w], .val (.str w), t9, c10, cnt + (if w ∈ os then 0 else 1), by rw [hws]; simp, .snoc c w hrs, rfl, ?_, h1⟩
    · rw [he]
      refine Eq.trans e1 ?_
      have a1 : ((cnt + (if w ∈ os then 0 else 1) : Nat) : Int) = (cnt : Int) + (if w ∈ os then 0 else 1) := by split <;> rfl
      have a2 : U.str (hA os) :: ((rs ++ [rk c w]).map rowT).map U.str = (U.str (hA os) :: (rs.map rowT).map U.str) ++ [.str (rowT (rk c w))] := by simp
      have a3 : (if (cnt : Int) + (if w ∈ os then 0 else 1) = 9 ∧ decide (9 ≤ dn.length) = false then U.int (((U.str (hA os) :: (rs.map rowT).map U.str).length : Nat) : Int) else dU (decide (9 ≤ dn.length))) = dU (decide (9 ≤ (dn ++ [w]).length)) := by
        have l1 : (U.str (hA os) :: (rs.map rowT).map U.str).length = dn.length + 1 := by simp; omega
        have l2 : (dn ++ [w]).length = dn.length + 1 := by simp
        rw [l1, l2]
        by_cases q : dn.length < d
        · rw [if_pos (hin.mpr q), if_neg (by rintro ⟨z, -⟩; omega)]
          rw [decide_eq_false (by omega), decide_eq_false (by omega)]
        · rw [if_neg (fun z => q (hin.mp z))]
          have hc : (cnt : Int) + 1 = ((dn.length + 1 : Nat) : Int) := by omega
          rw [hc]
          by_cases q9 : 9 ≤ dn.length
          · rw [if_neg (by rintro ⟨-, z⟩; rw [decide_eq_true q9] at z; cases z), decide_eq_true q9, decide_eq_true (by omega)]
          · by_cases q8 : dn.length = 8
            · rw [if_pos ⟨by rw [q8]; rfl, decide_eq_false q9⟩, q8]; rfl
            · rw [if_neg (by rintro ⟨z, -⟩; omega), decide_eq_false q9, decide_eq_false (by omega)]
      rw [a1, a2, a3]
    · rw [List.length_append, List.length_singleton]
      by_cases q : dn.length < d
      · rw [if_pos (hin.mpr q)]; omega
      · rw [if_neg (fun z => q (hin.mp z))]; omega)
  rw [List.append_nil] at hdn
  subst hdn
  refine ⟨rs, c8, c9, c10, st', (cnt : Int), hrs, hst, ?_⟩
  have it : itemsD (var 3) [.val (.ref n), s1, s2, .val (lS ws), .val (lS os), .own [.str (hA os)], .val (.int (d : Int)), .val .non, s8, s9, s10] st = .ok (ws.map U.str) st := by
    have i0 : items (lS ws) = some (ws.map U.str) := rfl
    have lz : (ws.map U.str).length ≤ 16777216 := by simp; omega
    generalize ws.map U.str = DS at *
    generalize lS ws = DL at *
    simp [i0, lz]
  unfold leS9
  rw [sFor_ap, it]
  show forL (tgN 8) t1_l_leaves (ws.map U.str) _ st = _
  rw [e, he]
end T_allcallers_k13_ends_and_bounds
namespace T_allcallers_k13_ends_and_bounds
open PySem L2 D C TX TL
theorem leaves_ev {n : Nat} {st : Store} (h : Hd n st) : ∃ st', f_l_leaves [.ref n] st = .ok (.bl true) st' ∧ Hd n st' := by
  obtain ⟨r1, st1, d1, l1, h1⟩ := draw_hd h 4 (by decide) (by decide)
  obtain ⟨many, hmany⟩ : ∃ m, m = 7 + r1 := ⟨_, rfl⟩
  obtain ⟨first, st2, d2, l2, h2⟩ := draw_hd h1 600 (by decide) (by decide)
  obtain ⟨d, st3, d3, l3, h3⟩ := draw_hd h2 5 (by decide) (by decide)
  obtain ⟨ws, hws⟩ : ∃ ws, ws = wsN first many := ⟨_, rfl⟩
  have wl : ws.length = many := by rw [hws]; exact ws_len ..
  have wn : ws.Nodup := by rw [hws]; exact ws_nodup l2 (by omega)
  have ww : ∀ w ∈ ws, isWordS w = true := by rw [hws]; exact ws_words l2 (by omega)
  obtain ⟨os, hos⟩ : ∃ os, os = sortS (ws.take d) := ⟨_, rfl⟩
  have osm : ∀ w, w ∈ os ↔ w ∈ ws.take d := fun w => by rw [hos]; exact (sort_perm (ws.take d)).mem_iff
  have tl : (ws.take d).length = d := by rw [List.length_take]; omega
  have osl : os.length = d := by rw [hos, (sort_perm (ws.take d)).length_eq, tl]
  have osw : ∀ w ∈ os, isWordS w = true := fun w hw => ww w (List.mem_of_mem_take ((osm w).mp hw))
  have oslv : leavesS os = true := by rw [hos]; exact G2.sort_leaves (wn.sublist (List.take_sublist ..)) (fun w hw => ww w (List.mem_of_mem_take hw)) (by omega)
  have e3 := le3 n many first (by omega) l2 .un .un .un .un .un .un .un st2
  rw [← hws] at e3
  have e4 := le4 n ws (by omega) (d := d) (.val (.int (many : Int))) (.val (.int (first : Int))) .un .un .un .un .un .un st2 st3 d3
  rw [← hos] at e4
  obtain ⟨rs, t8, t9, t10, st4, cnt, hrs, h4, e9⟩ := le9 n ws ww wn (by omega) d (by omega) (by omega) os osm (.val (.int (many : Int))) (.val (.int (first : Int))) .un .un .un st3 h3
  have hrl := hrs.len
  have ls := ls_leaves hrs ww osw (by omega) oslv
  have ll : (leavesL os rs).length = many + 2 := by unfold leavesL; simp; omega
  obtain ⟨st5, e12, p⟩ := told_ls (Ls := leavesL os rs) (fun z => by rw [z] at ll; cases ll) (by omega) ls st4
  have hT := leaves_T os rs
  have hj : join2 (Str.ofString "\n") (.lst ((U.str (hA os) :: (rs.map rowT).map U.str) ++ [.str (Str.ofString "on")])) = some (.str (Txt.join TX.nl ((leavesL os rs).map Line.T))) := by
    have e : (U.str (hA os) :: (rs.map rowT).map U.str) ++ [.str (Str.ofString "on")] = ((leavesL os rs).map Line.T).map U.str := by rw [hT]; simp
    rw [e]
    refine join_ev TX.nl ((leavesL os rs).map Line.T) 1000 (fun t ht => ?_) ?_
    · obtain ⟨L, hL, rfl⟩ := List.mem_map.mp ht
      exact (ls L hL).l
    · rw [List.length_map, ll, nl_len]; omega
  have r1' : leS1 [.val (.ref n), .un, .un, .un, .un, .un, .un, .un, .un, .un, .un] st = .nx [.val (.ref n), .val (.int (many : Int)), .un, .un, .un, .un, .un, .un, .un, .un, .un] st1 := by
    have d1 : f_l_draw [.ref n, .int 4] st = .ok (.int (r1 : Int)) st1 := d1
    have e : (7 : Int) + (r1 : Int) = (many : Int) := by omega
    unfold leS1
    simp [d1, e]
  have r2' : leS2 [.val (.ref n), .val (.int (many : Int)), .un, .un, .un, .un, .un, .un, .un, .un, .un] st1 = .nx [.val (.ref n), .val (.int (many : Int)), .val (.int (first : Int)), .un, .un, .un, .un, .un, .un, .un, .un] st2 := by
    have d2 : f_l_draw [.ref n, .int 600] st1 = .ok (.int (first : Int)) st2 := d2
    unfold leS2
    simp [d2]
  have r7 : leS7 [.val (.ref n), .val (.int (many : Int)), .val (.int (first : Int)), .val (lS ws), .val (lS os), .own [.str (hA os)], .un, .un, .un, .un, .un] st3 = .nx [.val (.ref n), .val (.int (many : Int)), .val (.int (first : Int)), .val (lS ws), .val (lS os), .own [.str (hA os)], .val (.int (d : Int)), .un, .un, .un, .un] st3 := by
    have ln : lenN [lS os] = some (.int (d : Int)) := by
      show lenN [.lst (os.map U.str)] = _
      have : (os.map U.str).length ≤ 16777216 := by simp; omega
      simp [this, osl]
    generalize lS os = OS at *
    unfold leS7
    simp [ln]
  have r8 : leS8 [.val (.ref n), .val (.int (many : Int)), .val (.int (first : Int)), .val (lS ws), .val (lS os), .own [.str (hA os)], .val (.int (d : Int)), .un, .un, .un, .un] st3 = .nx [.val (.ref n), .val (.int (many : Int)), .val (.int (first : Int)), .val (lS ws), .val (lS os), .own [.str (hA os)], .val (.int (d : Int)), .val .non, .un, .un, .un] st3 := by
    unfold leS8; simp
  have oz : (U.str (hA os) :: (rs.map rowT).map U.str).length = many + 1 := by simp; omega
  generalize (U.str (hA os) :: (rs.map rowT).map U.str) = OL at *
  generalize Txt.join TX.nl ((leavesL os rs).map Line.T) = TT at *
  have r10 : ∀ s7 s8 s9 s10, leS10 [.val (.ref n), .val (.int (many : Int)), .val (.int (first : Int)), .val (lS ws), .val (lS os), .own OL, .val (.int cnt), s7, s8, s9, s10] st4 = .nx [.val (.ref n), .val (.int (many : Int)), .val (.int (first : Int)), .val (lS ws), .val (lS os), .own (OL ++ [.str (Str.ofString "on")]), .val (.int cnt), s7, s8, s9, s10] st4 := fun s7 s8 s9 s10 => by
    have lz : OL.length < 16777216 := by omega
    unfold leS10; simp [lz]
  have oz2 : ((OL ++ [U.str (Str.ofString "on")]).length : Int) - 1 = (many : Int) + 1 := by rw [List.length_append, oz]; simp
  have hOL : ∀ l : List U, ownL (some (Sl.own l)) = some l := fun _ => rfl
  generalize OL ++ [U.str (Str.ofString "on")] = OM at *
  have r11 : leS11 [.val (.ref n), .val (.int (many : Int)), .val (.int (first : Int)), .val (lS ws), .val (lS os), .own OM, .val (.int cnt), .val (dU (decide (9 ≤ ws.length))), t8, t9, t10] st4 = .nx [.val (.ref n), .val (.int (many : Int)), .val (.int (first : Int)), .val (lS ws), .val (lS os), .own OM, .val (.int cnt), .val (toldU (readS (leavesL os rs))), t8, t9, t10] st4 := by
    have i1 : is2 .non .non = some (.bl true) := rfl
    have i2 : is2 (.int 9) .non = some (.bl false) := rfl
    unfold leS11
    by_cases q : 9 ≤ ws.length
    · rw [leaves_many hrs wn q (by omega) fun w hw => by
        obtain ⟨i, hi⟩ := List.getElem?_of_mem ((osm w).mp hw)
        have il := (List.getElem?_eq_some_iff.mp hi).1
        rw [tl] at il
        rw [List.getElem?_take_of_lt il] at hi
        exact List.mem_of_getElem? (i := i) (by rw [List.getElem?_take_of_lt (by omega)]; exact hi), decide_eq_true q]
      show _ = Out.nx [.val (.ref n), .val (.int (many : Int)), .val (.int (first : Int)), .val (lS ws), .val (lS os), .own OM, .val (.int cnt), .val (.int 9), t8, t9, t10] st4
      simp [dU, i2]
    · rw [leaves_few hrs ww (by omega) fun w hw => List.mem_of_mem_take ((osm w).mp hw), decide_eq_false q, wl]
      generalize lS ws = WS at *
      generalize lS os = OS at *
      simp [dU, i1, hOL, oz2, szL]
  have eqk : eq2 (toldU (readS (leavesL os rs))) (toldU (readS (leavesL os rs))) = some (.bl true) := by
    by_cases q : 9 ≤ ws.length
    · rw [leaves_many hrs wn q (by omega) fun w hw => by
        obtain ⟨i, hi⟩ := List.getElem?_of_mem ((osm w).mp hw)
        have il := (List.getElem?_eq_some_iff.mp hi).1
        rw [tl] at il
        rw [List.getElem?_take_of_lt il] at hi
        exact List.mem_of_getElem? (i := i) (by rw [List.getElem?_take_of_lt (by omega)]; exact hi)]
      rfl
    · rw [leaves_few hrs ww (by omega) fun w hw => List.mem_of_mem_take ((osm w).mp hw)]
      exact eqI [(ws.length : Int) + 1]
  have r12 : leS12 [.val (.ref n), .val (.int (many : Int)), .val (.int (first : Int)), .val (lS ws), .val (lS os), .own OM, .val (.int cnt), .val (toldU (readS (leavesL os rs))), t8, t9, t10] st4 = .rt (.bl true) st5 := by
    generalize toldU (readS (leavesL os rs)) = TU at *
    have f : frzE 5 [.val (.ref n), .val (.int (many : Int)), .val (.int (first : Int)), .val (lS ws), .val (lS os), .own OM, .val (.int cnt), .val TU, t8, t9, t10] = [.val (.ref n), .val (.int (many : Int)), .val (.int (first : Int)), .val (lS ws), .val (lS os), .val (.lst OM), .val (.int cnt), .val TU, t8, t9, t10] := rfl
    unfold leS12
    rw [frzS_ap, f]
    simp [joinD, hj, e12, eqk]
  refine ⟨st5, ?_, h4.pre p⟩
  show fin (b_l_leaves [.val (.ref n), .un, .un, .un, .un, .un, .un, .un, .un, .un, .un] st) = _
  rw [leS_eq, chain r1', chain r2', chain e3, chain e4, le56 n os osw (by omega), chain r7, chain r8, chain e9, chain (r10 _ _ _ _), chain r11, sSeq_ap, r12]
  rfl
end T_allcallers_k13_ends_and_bounds
namespace T_allcallers_k13_ends_and_bounds
open PySem L2 D C TX TL
def laS1 : DS := (sFor (itemsD (appN szL (acons (cst .non) (acons (cst (.int 5)) (acons (cst (.bl true)) (acons (appN szL anil) (acons (cst (.dct [] [])) (acons (appN szT (acons (cst (.str (Str.ofString "piece a !"))) (acons (cst (.str (Str.ofString "on"))) anil))) (acons (appN szL (acons (cst (.str (Str.ofString "piece a !"))) (acons (cst (.str (Str.ofString "on"))) anil))) (acons (cst (.str (Str.ofString ""))) (acons (cst (.str (Str.ofString "\n"))) (acons (cst (.str (Str.ofString "on"))) (acons (cst (.str (Str.ofString "piece a"))) (acons (cst (.str (Str.ofString " "))) anil)))))))))))))) (tgN 1) t1_law)
def laS2 : DS := (sIf (orT (tst (bin ne2 (appU f_l_told (acons (cst (.str (Str.ofString "piece a !"))) anil)) (cst (.int 1)))) (orT (tst (bin ne2 (appU f_l_told (acons (cst (.str (Str.ofString "piece a !\n"))) anil)) (cst (.int 1)))) (tst (bin ne2 (appU f_l_told (acons (cst (.str (Str.ofString "piece a !\npiece b !\non"))) anil)) (cst (.int 1)))))) (sSeq (sRet (cst (.bl false))) sNil) sNil)
def laS3 : DS := (sIf (orT (tst (bin ne2 (appU f_l_told (acons (cst (.str (Str.ofString "piece a !\non\n"))) anil)) (cst (.int 2)))) (tst (bin ne2 (appU f_l_told (acons (cst (.str (Str.ofString "piece a !\non\npiece b !"))) anil)) (cst (.int 3))))) (sSeq (sRet (cst (.bl false))) sNil) sNil)
def laS4 : DS := (sFor (itA rng1 (acons (appN maxN (acons (cst (.int 4)) (acons (appN minN (acons (appN lenN (acons (var 0) anil)) (acons (cst (.int 20)) anil))) anil))) anil)) (tgN 2) t2_law)
def laS5 : DS := (sRet (cst (.bl true)))
theorem laS_eq : b_law = sSeq laS1 (sSeq laS2 (sSeq laS3 (sSeq laS4 (sSeq laS5 sNil)))) := rfl
theorem ls_no (x w0 : Str) (ws : List Str) (spl : Txt.split x (Str.ofString " ") = w0 :: ws) (np : ¬ w0 = Str.ofString "piece") (nt : tabAt tab_PARTS w0 = none) (h10 : 10 ∉ TL.tl x) (l : x.length ≤ 1000) : LS (noL x) := ⟨⟨noL_ok x w0 ws spl np nt (by omega), h10⟩, l⟩
theorem ls_empty : LS (noL (Str.ofString "")) := ls_no _ (Str.ofString "") [] (by decide +kernel) (by decide +kernel) (by decide +kernel) (by decide +kernel) (by decide +kernel)
theorem ls_blank : LS (noL (Str.ofString " ")) := ls_no _ (Str.ofString "") [Str.ofString ""] (by decide +kernel) (by decide +kernel) (by decide +kernel) (by decide +kernel) (by decide +kernel)
theorem ls_bad : LS (bhL (Str.ofString "piece a")) := ⟨⟨bhL_ok _ sa (by decide +kernel) (by decide +kernel) (by decide +kernel), by decide +kernel⟩, by decide +kernel⟩
theorem ls_a : LS (hdL (pc sa)) := ls_head (by decide +kernel)
theorem ls_b : LS (hdL (pc sb)) := ls_head (by decide +kernel)
theorem fixed (T : Str) (Ls : List Line) (h : Ls ≠ []) (hz : Ls.length ≤ 100) (hn : ∀ L ∈ Ls, LS L) (e : Txt.join TX.nl (Ls.map Line.T) = T) (u : U) (hu : toldU (readS Ls) = u) (st : Store) : ∃ st', f_l_told [.str T] st = .ok u st' := by
  obtain ⟨st', e1, -⟩ := told_ls h hz hn st
  rw [e, hu] at e1
  exact ⟨st', e1⟩
theorem all1 {P : Line → Prop} {a : Line} (h : P a) : ∀ L ∈ [a], P L := fun L hL => by rw [List.mem_singleton.mp hL]; exact h
theorem all2 {P : Line → Prop} {a : Line} {l : List Line} (h : P a) (hl : ∀ L ∈ l, P L) : ∀ L ∈ a :: l, P L := fun L hL => by
  rcases List.mem_cons.mp hL with rfl | q
  · exact h
  · exact hl L q
theorem fx1 (st : Store) : ∃ st', f_l_told [.str (Str.ofString "piece a !")] st = .ok (.int 1) st' := fixed (Str.ofString "piece a !") [hdL (pc sa)] (by simp) (by simp) (all1 ls_a) (by decide +kernel) (.int 1) rfl st
theorem fx2 (st : Store) : ∃ st', f_l_told [.str (Str.ofString "piece a !\n")] st = .ok (.int 1) st' := fixed (Str.ofString "piece a !\n") [hdL (pc sa), noL (Str.ofString "")] (by simp) (by simp) (all2 ls_a (all1 ls_empty)) (by decide +kernel) (.int 1) rfl st
theorem fx3 (st : Store) : ∃ st', f_l_told [.str (Str.ofString "piece a !\npiece b !\non")] st = .ok (.int 1) st' := fixed (Str.ofString "piece a !\npiece b !\non") [hdL (pc sa), hdL (pc sb), rwL .on] (by simp) (by simp) (all2 ls_a (all2 ls_b (all1 ls_on))) (by decide +kernel) (.int 1) rfl st
theorem fx4 (st : Store) : ∃ st', f_l_told [.str (Str.ofString "piece a !\non\n")] st = .ok (.int 2) st' := fixed (Str.ofString "piece a !\non\n") [hdL (pc sa), rwL .on, noL (Str.ofString "")] (by simp) (by simp) (all2 ls_a (all2 ls_on (all1 ls_empty))) (by decide +kernel) (.int 2) rfl st
theorem fx5 (st : Store) : ∃ st', f_l_told [.str (Str.ofString "piece a !\non\npiece b !")] st = .ok (.int 3) st' := fixed (Str.ofString "piece a !\non\npiece b !") [hdL (pc sa), rwL .on, hdL (pc sb)] (by simp) (by simp) (all2 ls_a (all2 ls_on (all1 ls_b))) (by decide +kernel) (.int 3) (by
  have e : run s0 0 [hdL (pc sa), rwL .on, hdL (pc sb)] = run (mid [] sa) 2 [hdL (pc sb)] := run_first sa [hdL (pc sb)]
  have hm := head_mid [] sa sb 2
  rw [if_neg (by
    have : ¬ sb = sa := by decide +kernel
    simp [this])] at hm
  unfold readS
  rw [e, run_cons, hm]
  rfl) st
theorem fx6 (st : Store) : ∃ st', f_l_told [.str (Str.ofString "")] st = .ok (.int 0) st' := fixed (Str.ofString "") [noL (Str.ofString "")] (by simp) (by simp) (all1 ls_empty) (by decide +kernel) (.int 0) rfl st
theorem fx7 (st : Store) : ∃ st', f_l_told [.str (Str.ofString "\n")] st = .ok (.int 0) st' := fixed (Str.ofString "\n") [noL (Str.ofString ""), noL (Str.ofString "")] (by simp) (by simp) (all2 ls_empty (all1 ls_empty)) (by decide +kernel) (.int 0) rfl st
theorem fx8 (st : Store) : ∃ st', f_l_told [.str (Str.ofString "on")] st = .ok (.int 0) st' := fixed (Str.ofString "on") [rwL .on] (by simp) (by simp) (all1 ls_on) (by decide +kernel) (.int 0) rfl st
theorem fx9 (st : Store) : ∃ st', f_l_told [.str (Str.ofString "piece a")] st = .ok (.int 0) st' := fixed (Str.ofString "piece a") [bhL (Str.ofString "piece a")] (by simp) (by simp) (all1 ls_bad) (by decide +kernel) (.int 0) rfl st
theorem fx10 (st : Store) : ∃ st', f_l_told [.str (Str.ofString " ")] st = .ok (.int 0) st' := fixed (Str.ofString " ") [noL (Str.ofString " ")] (by simp) (by simp) (all1 ls_blank) (by decide +kernel) (.int 0) rfl st
theorem for_st {t : Tg} {b : DS} {I : D.Env → Store → Prop} : ∀ (us : List U) (env : D.Env) (st : Store), I env st → (∀ u ∈ us, ∀ env st, I env st → ∃ a env' st', t u = some a ∧ b (setE env a) st = .nx env' st' ∧ I env' st') → ∃ env' st', forL t b us env st = .nx env' st' ∧ I env' st'
  | [], env, st, h, _ => ⟨env, st, rfl, h⟩
  | u :: us, env, st, h, step => by
    obtain ⟨a, env1, st1, h1, h2, h3⟩ := step u (List.mem_cons_self ..) env st h
    obtain ⟨env2, st2, e, q⟩ := for_st us env1 st1 h3 fun v hv => step v (List.mem_cons_of_mem _ hv)
    refine ⟨env2, st2, ?_, q⟩
    rw [for_cons, h1]
    simp only [h2, e]
def things : List U := [.non, .int 5, .bl true, .lst [], .dct [] [], .tup [.str (Str.ofString "piece a !"), .str (Str.ofString "on")], .lst [.str (Str.ofString "piece a !"), .str (Str.ofString "on")], .str (Str.ofString ""), .str (Str.ofString "\n"), .str (Str.ofString "on"), .str (Str.ofString "piece a"), .str (Str.ofString " ")]
theorem thing_no : ∀ u ∈ things, ∀ st, ∃ st', f_l_told [u] st = .ok (.int 0) st' := by
  intro u hu st
  unfold things at hu
  simp only [List.mem_cons, List.not_mem_nil, or_false] at hu
  rcases hu with rfl | rfl | rfl | rfl | rfl | rfl | rfl | rfl | rfl | rfl | rfl | rfl
  · exact ⟨st, told_no rfl (by decide) st⟩
  · exact ⟨st, told_no rfl (by decide) st⟩
  · exact ⟨st, told_no rfl (by decide) st⟩
  · exact ⟨st, told_no rfl (by decide) st⟩
  · exact ⟨st, told_no rfl (by decide) st⟩
  · exact ⟨st, told_no rfl (by decide) st⟩
  · exact ⟨st, told_no rfl (by decide) st⟩
  · exact fx6 st
  · exact fx7 st
  · exact fx8 st
  · exact fx9 st
  · exact fx10 st
theorem la1 (ns : List Int) (st : Store) : ∃ a1 st', laS1 [.val (.scr ns), .un, .un, .un] st = .nx [.val (.scr ns), a1, .un, .un] st' := by
  obtain ⟨env', st', e, a1, rfl⟩ := for_st (t := tgN 1) (b := t1_law) (I := fun env st => ∃ a1, env = [.val (.scr ns), a1, .un, .un]) things [.val (.scr ns), .un, .un, .un] st ⟨_, rfl⟩ (fun u hu env st ⟨a1, he⟩ => by
    obtain ⟨st', e⟩ := thing_no u hu st
    refine ⟨_, [.val (.scr ns), .val u, .un, .un], st', rfl, ?_, _, rfl⟩
    rw [he]
    show t1_law [.val (.scr ns), .val u, .un, .un] st = _
    unfold t1_law
    simp [e])
  refine ⟨a1, st', ?_⟩
  have it : itemsD (appN szL (acons (cst .non) (acons (cst (.int 5)) (acons (cst (.bl true)) (acons (appN szL anil) (acons (cst (.dct [] [])) (acons (appN szT (acons (cst (.str (Str.ofString "piece a !"))) (acons (cst (.str (Str.ofString "on"))) anil))) (acons (appN szL (acons (cst (.str (Str.ofString "piece a !"))) (acons (cst (.str (Str.ofString "on"))) anil))) (acons (cst (.str (Str.ofString ""))) (acons (cst (.str (Str.ofString "\n"))) (acons (cst (.str (Str.ofString "on"))) (acons (cst (.str (Str.ofString "piece a"))) (acons (cst (.str (Str.ofString " "))) anil))))))))))))) [.val (.scr ns), .un, .un, .un] st = .ok things st := by
    unfold things
    simp [szL, szT]
  generalize things = TH at e it
  unfold laS1
  rw [sFor_ap, it]
  simp only [out_ok]
  exact e
theorem la2 (ns : List Int) (a1 : Sl) (st : Store) : ∃ st', laS2 [.val (.scr ns), a1, .un, .un] st = .nx [.val (.scr ns), a1, .un, .un] st' := by
  obtain ⟨s1, e1⟩ := fx1 st
  obtain ⟨s2, e2⟩ := fx2 s1
  obtain ⟨s3, e3⟩ := fx3 s2
  refine ⟨s3, ?_⟩
  unfold laS2
  generalize f_l_told = ft at *
  simp [e1, e2, e3]
theorem la3 (ns : List Int) (a1 : Sl) (st : Store) : ∃ st', laS3 [.val (.scr ns), a1, .un, .un] st = .nx [.val (.scr ns), a1, .un, .un] st' := by
  obtain ⟨s1, e1⟩ := fx4 st
  obtain ⟨s2, e2⟩ := fx5 s1
  refine ⟨s2, ?_⟩
  unfold laS3
  generalize f_l_told = ft at *
  simp [e1, e2]
theorem turn (ns : List Int) (k : Nat) (hk : k ≤ 1000) (a1 a2 a3 : Sl) (st : Store) : ∃ b3 st', t2_law [.val (.scr ns), a1, .val (.int (k : Int)), a3] st = .nx [.val (.scr ns), a1, .val (.int (k : Int)), b3] st' := by
  obtain ⟨ob, e0, ho⟩ := hand_ok ns k (by omega) st
  have e0 : f_l_hand [.scr ns, .int (k : Int)] st = .ok (.ref st.length) (st ++ [ob]) := e0
  have h0 : Hd st.length (st ++ [ob]) := ⟨ob, by simp, ho⟩
  obtain ⟨s1, e1, h1⟩ := pieces_ev h0
  obtain ⟨s2, e2, h2⟩ := rows_ev h1
  obtain ⟨s3, e3, h3⟩ := leaves_ev h2
  refine ⟨.val (.ref st.length), s3, ?_⟩
  unfold t2_law
  simp [e0, e1, e2, e3]
theorem law_true (ns : List Int) (h : ns.length ≤ 63) : ∃ st', f_law [.scr ns] [] = .ok (.bl true) st' := by
  obtain ⟨a1, s1, e1⟩ := la1 ns []
  obtain ⟨s2, e2⟩ := la2 ns a1 s1
  obtain ⟨s3, e3⟩ := la3 ns a1 s2
  obtain ⟨m, hm, hm2⟩ : ∃ m : Nat, m ≤ 64 ∧ maxN [.int 4, .int (if (20 : Int) < (ns.length : Int) then 20 else (ns.length : Int))] = some (.int (m : Int)) := by
    have e : maxN [.int 4, .int (if (20 : Int) < (ns.length : Int) then 20 else (ns.length : Int))] = some (.int (if (4 : Int) < (if (20 : Int) < (ns.length : Int) then 20 else (ns.length : Int)) then (if (20 : Int) < (ns.length : Int) then 20 else (ns.length : Int)) else 4)) := rfl
    rw [e]
    by_cases q : (20 : Int) < (ns.length : Int)
    · exact ⟨20, by decide, by rw [if_pos q]; rfl⟩
    · rw [if_neg q]
      by_cases q2 : (4 : Int) < (ns.length : Int)
      · exact ⟨ns.length, by omega, by rw [if_pos q2]⟩
      · exact ⟨4, by decide, by rw [if_neg q2]; rfl⟩
  obtain ⟨env', s4, e4, b2, b3, rfl⟩ := for_st (t := tgN 2) (b := t2_law) (I := fun env st => ∃ a2 a3, env = [.val (.scr ns), a1, a2, a3]) ((List.range m).map fun i => U.int (i : Nat)) [.val (.scr ns), a1, .un, .un] s3 ⟨_, _, rfl⟩ (fun u hu env st ⟨a2, a3, he⟩ => by
    obtain ⟨k, hk, rfl⟩ := List.mem_map.mp hu
    have hk := List.mem_range.mp hk
    obtain ⟨b3, st', e⟩ := turn ns k (by omega) a1 a2 a3 st
    exact ⟨_, _, st', rfl, by rw [he]; exact e, _, _, rfl⟩)
  have hr : rng1 [U.int (m : Int)] = some ((List.range m).map fun i => U.int (i : Nat)) := rng1_nat m (by omega)
  refine ⟨s4, ?_⟩
  have r4 : laS4 [.val (.scr ns), a1, .un, .un] s3 = .nx [.val (.scr ns), a1, b2, b3] s4 := by
    have ln : lenN [.scr ns] = some (.int (ns.length : Int)) := by
      have : ns.length ≤ 16777216 := by omega
      simp [lenN, this]
    have mn : minN [.int (ns.length : Int), .int 20] = some (.int (if (20 : Int) < (ns.length : Int) then 20 else (ns.length : Int))) := rfl
    generalize (List.range m).map (fun i => U.int (i : Nat)) = RG at *
    generalize (if (20 : Int) < (ns.length : Int) then (20 : Int) else (ns.length : Int)) = MN at *
    unfold laS4
    simp [ln, mn, hm2, hr, e4]
  show fin (b_law [.val (.scr ns), .un, .un, .un] []) = _
  rw [laS_eq, chain e1, chain e2, chain e3, chain r4]
  unfold laS5
  simp [fin]
end T_allcallers_k13_ends_and_bounds
open PySem PySem.W PyProof.Rows
set_option maxHeartbeats 0 in
theorem PySem.Challenge.cw_allcallers_k13_ends_and_bounds_holds : PySem.Challenge.rw_allcallers_k13_ends_and_bounds.Holds := by
  w_on; o_law; k_head; (case hw => w_witness2)
  k_fill
  refine L2.walk_of (l := PySem.Challenge.rw_allcallers_k13_ends_and_bounds) (n := 63) (k := 13) (x := "_law_script") (CX := fun w => L2.CX PySem.Challenge.rw_allcallers_k13_ends_and_bounds.prog w) (sp := fun w => D.spX _ 1 T_allcallers_k13_ends_and_bounds.f_law) rfl (by decide) rfl ⟨rfl, by decide, by decide⟩ (fun w h Y => PySem.W.kIn_of Y) ?F (fun _ H a ns hl _ hS => D.law_sp hS (T_allcallers_k13_ends_and_bounds.law_true ns hl)) (fun _ _ _ _ _ h => D.cx_no h)
  case F =>
    intro w mg fa h KX G hmg
    refine' T_allcallers_k13_ends_and_bounds.all_mk KX G hmg ?a0 ?l0 ?c0 ?k0 ?a1 ?l1 ?c1 ?k1 ?l2 ?c2 ?k2 ?a3 ?l3 ?c3 ?k3 ?a4 ?l4 ?c4 ?k4 ?a5 ?l5 ?c5 ?k5 ?a6 ?l6 ?c6 ?k6 ?a7 ?l7 ?c7 ?k7 ?a8 ?l8 ?c8 ?k8 ?a9 ?l9 ?c9 ?k9 ?a10 ?l10 ?c10 ?k10 ?a11 ?l11 ?c11 ?k11 ?l12 ?c12 ?k12 ?l13 ?c13 ?k13 ?a14 ?l14 ?c14 ?k14 ?a15 ?l15 ?c15 ?k15 ?a16 ?l16 ?c16 ?k16 ?l17 ?c17 ?k17 ?a18 ?l18 ?c18 ?k18 ?a19 ?l19 ?c19 ?k19 ?a20 ?l20 ?c20 ?k20 ?a21 ?l21 ?c21 ?k21 ?a22 ?l22 ?c22 ?k22 ?l23 ?c23 ?k23 ?a24 ?l24 ?c24 ?k24 ?a25 ?l25 ?c25 ?k25 ?a26 ?l26 ?c26 ?k26 ?a27 ?l27 ?c27 ?k27 ?a28 ?l28 ?c28 ?k28 ?a29 ?l29 ?c29 ?k29 ?a30 ?l30 ?c30 ?k30 ?a31 ?l31 ?c31 ?k31 ?z_abs ?z_all ?z_bool ?z_enumerate ?z_int ?z_isinstance ?z_len ?z_list ?z_max ?z_min ?z_range ?z_set ?z_sorted ?z_str ?z_tuple ?z_zip ?z_BEYOND ?z_FIGURES ?z_GREATEST ?z_LETTERS ?z_LONGEST ?z_MOST ?z_MOST_ARGS ?z_MOST_FIGURES ?z_MOST_LEAVES ?z_MOST_PIECES ?z_MOST_ROWS ?z_PARTS ?q_PARTS ?r_PARTS ?o_PARTS ?u_PARTS ?oa_Reader ?o0_Reader ?o1_Reader ?o2_Reader ?o3_Reader ?on_Reader_begun ?on_Reader_found ?on_Reader_known ?on_Reader_lines ?on_Reader_most ?om_Reader ?oi_Reader ?okc_Reader ?of_Reader_begin ?of_Reader_end ?of_Reader_learn ?of_Reader_take ?ofn_Reader____init__ ?ofn_Reader__end ?ofn_Reader__learn ?ofn_Reader__begin ?ofn_Reader__take ?ka_CallersError ?kh_CallersError ?kt_CallersError ?kx_CallersError ?ka_NoText ?kh_NoText ?kt_NoText ?kx_NoText ?x0_NoText ?x1_NoText ?x2_NoText ?x3_NoText ?x4_NoText ?x5_NoText ?x6_NoText ?x7_NoText ?g_NoText_row ?s_NoText_NoText ?lc_NoText ?rc_NoText ?sa_NoText ?kc_NoText ?ai_NoText ?ti_NoText ?li_NoText ?ci_NoText ?ki_NoText ?b1_CallersError ?b3_CallersError ?bv_CallersError
    (case oa_Reader => k_is)
    (case oi_Reader => k_is)
    (case of_Reader_begin => k_is)
    (case of_Reader_end => k_is)
    (case of_Reader_learn => k_is)
    (case of_Reader_take => k_is)
    (case a0 => k_is)
    (case l0 => k_is)
    (case c0 => k_is)
    (case k0 => k_is)
    (case a1 => k_is)
    (case l1 => k_is)
    (case c1 => k_is)
    (case k1 => k_is)
    (case l2 => k_is)
    (case c2 => k_is)
    (case k2 => k_is)
    (case a3 => k_is)
    (case l3 => k_is)
    (case c3 => k_is)
    (case k3 => k_is)
    (case a4 => k_is)
    (case l4 => k_is)
    (case c4 => k_is)
    (case k4 => k_is)
    (case a5 => k_is)
    (case l5 => k_is)
    (case c5 => k_is)
    (case k5 => k_is)
    (case a6 => k_is)
    (case l6 => k_is)
    (case c6 => k_is)
    (case k6 => k_is)
    (case a7 => k_is)
    (case l7 => k_is)
    (case c7 => k_is)
    (case k7 => k_is)
    (case a8 => k_is)
    (case l8 => k_is)
    (case c8 => k_is)
    (case k8 => k_is)
    (case a9 => k_is)
    (case l9 => k_is)
    (case c9 => k_is)
    (case k9 => k_is)
    (case a10 => k_is)
    (case l10 => k_is)
    (case c10 => k_is)
    (case k10 => k_is)
    (case a11 => k_is)
    (case l11 => k_is)
    (case c11 => k_is)
    (case k11 => k_is)
    (case l12 => k_is)
    (case c12 => k_is)
    (case k12 => k_is)
    (case l13 => k_is)
    (case c13 => k_is)
    (case k13 => k_is)
    (case a14 => k_is)
    (case l14 => k_is)
    (case c14 => k_is)
    (case k14 => k_is)
    (case a15 => k_is)
    (case l15 => k_is)
    (case c15 => k_is)
    (case k15 => k_is)
    (case a16 => k_is)
    (case l16 => k_is)
    (case c16 => k_is)
    (case k16 => k_is)
    (case l17 => k_is)
    (case c17 => k_is)
    (case k17 => k_is)
    (case a18 => k_is)
    (case l18 => k_is)
    (case c18 => k_is)
    (case k18 => k_is)
    (case a19 => k_is)
    (case l19 => k_is)
    (case c19 => k_is)
    (case k19 => k_is)
    (case a20 => k_is)
    (case l20 => k_is)
    (case c20 => k_is)
    (case k20 => k_is)
    (case a21 => k_is)
    (case l21 => k_is)
    (case c21 => k_is)
    (case k21 => k_is)
    (case a22 => k_is)
    (case l22 => k_is)
    (case c22 => k_is)
    (case k22 => k_is)
    (case l23 => k_is)
    (case c23 => k_is)
    (case k23 => k_is)
    (case a24 => k_is)
    (case l24 => k_is)
    (case c24 => k_is)
    (case k24 => k_is)
    (case a25 => k_is)
    (case l25 => k_is)
    (case c25 => k_is)
    (case k25 => k_is)
    (case a26 => k_is)
    (case l26 => k_is)
    (case c26 => k_is)
    (case k26 => k_is)
    (case a27 => k_is)
    (case l27 => k_is)
    (case c27 => k_is)
    (case k27 => k_is)
    (case a28 => k_is)
    (case l28 => k_is)
    (case c28 => k_is)
    (case k28 => k_is)
    (case a29 => k_is)
    (case l29 => k_is)
    (case c29 => k_is)
    (case k29 => k_is)
    (case a30 => k_is)
    (case l30 => k_is)
    (case c30 => k_is)
    (case k30 => k_is)
    (case a31 => k_is)
    (case l31 => k_is)
    (case c31 => k_is)
    (case k31 => k_is)
    (case z_abs => k_is)
    (case z_all => k_is)
    (case z_bool => k_is)
    (case z_enumerate => k_is)
    (case z_int => k_is)
    (case z_isinstance => k_is)
    (case z_len => k_is)
    (case z_list => k_is)
    (case z_max => k_is)
    (case z_min => k_is)
    (case z_range => k_is)
    (case z_set => k_is)
    (case z_sorted => k_is)
    (case z_str => k_is)
    (case z_tuple => k_is)
    (case z_zip => k_is)
    (case z_BEYOND => k_is)
    (case z_FIGURES => k_is)
    (case z_GREATEST => k_is)
    (case z_LETTERS => k_is)
    (case z_LONGEST => k_is)
    (case z_MOST => k_is)
    (case z_MOST_ARGS => k_is)
    (case z_MOST_FIGURES => k_is)
    (case z_MOST_LEAVES => k_is)
    (case z_MOST_PIECES => k_is)
    (case z_MOST_ROWS => k_is)
    (case z_PARTS => k_is)
    (case q_PARTS => k_is)
    (case r_PARTS => k_keys)
    (case o_PARTS => rfl)
    (case u_PARTS => rfl)
    (case o0_Reader => k_is)
    (case o1_Reader => k_is)
    (case o2_Reader => k_is)
    (case o3_Reader => k_is)
    (case on_Reader_begun => k_is)
    (case on_Reader_found => k_is)
    (case on_Reader_known => k_is)
    (case on_Reader_lines => k_is)
    (case on_Reader_most => k_is)
    (case om_Reader => k_is)
    (case okc_Reader => k_is)
    (case ofn_Reader____init__ => k_is)
    (case ofn_Reader__end => k_is)
    (case ofn_Reader__learn => k_is)
    (case ofn_Reader__begin => k_is)
    (case ofn_Reader__take => k_is)
    (case ka_CallersError => k_is)
    (case kh_CallersError => k_is)
    (case kt_CallersError => k_is)
    (case kx_CallersError => k_is)
    (case ka_NoText => k_is)
    (case kh_NoText => k_is)
    (case kt_NoText => k_is)
    (case kx_NoText => k_is)
    (case x0_NoText => k_is)
    (case x1_NoText => k_is)
    (case x2_NoText => k_is)
    (case x3_NoText => k_is)
    (case x4_NoText => k_is)
    (case x5_NoText => k_is)
    (case x6_NoText => k_is)
    (case x7_NoText => k_is)
    (case g_NoText_row => k_is)
    (case s_NoText_NoText => k_is)
    (case lc_NoText => k_is)
    (case rc_NoText => rfl)
    (case sa_NoText => k_is)
    (case kc_NoText => k_is)
    (case ai_NoText => k_is)
    (case ti_NoText => k_is)
    (case li_NoText => k_is)
    (case ci_NoText => k_is)
    (case ki_NoText => k_is)
    (case b1_CallersError => k_is)
    (case b3_CallersError => k_is)
    (case bv_CallersError => k_is)
