import PyProof.Rows.All
import Wide.All
import OpenK.AllK
import Wide.FinOn
import HandS.ForMost
import HandS.IsInst
import HandS.Flow
import HandS.WordsExc
import HandS.CallSlots
import HandS.Style
import HandS.TupAny
import HandS.TupLe
import HandS.Deep
import HandS.Small
import PyProof.NeKinds
import PyProof.EqKinds
import KE.GoesEnum
import HandS.Zip
import HandS.Rev
import HandS.Strs
import HandS.SetFor
import PyProof.SetRoads
import PyProof.Rows.SortShellAny
import PyProof.Rows.SortShellSt
import HandS.TryOnly
import HandS.More
import HandS.SortKw
import KE.DatumOrd
import HandS.Exc
import HandS.ExcIs
import HandS.ExcField
import HandS.ExcInit
import HandS.ExcOwn
import PyProof.TupleOfStr
import HandS.Conv
import HandS.Text
import HandS.RaiseMore
import KE.KDictDisplayH
import PySem.Challenge.RW_allcallers_k54_no_place
set_option Elab.async false
set_option linter.all false
set_option maxRecDepth 100000
namespace D
open PySem L2

/-! ### data -/
inductive U where
  | non | bl (b : Bool) | int (i : Int) | str (x : Str)
  | tup (us : List U) | lst (us : List U) | dct (ks us : List U)
  | ref (n : Nat) | ty (n : String) | scr (ns : List Int)
inductive Ob where
  | lst (us : List U) | dct (ks us : List U) | ins (c : Str) (fs : List (Str × U)) | obj (c : Str) (fs : List (Str × U)) | dcT (ks : List (List U)) (us : List U) | gone
abbrev Store := List Ob
/-- how a step ends -/
inductive Rs (α : Type) where
  | ok (a : α) (st : Store) | ex (c : Str) (us : List (Str × U)) (st : Store) | bad
def Rs.bind {α β : Type} (r : Rs α) (k : α → Store → Rs β) : Rs β := match r with
  | .ok a st => k a st
  | .ex c us st => .ex c us st
  | .bad => .bad
def Rs.of {α : Type} (o : Option α) (st : Store) : Rs α := match o with
  | some a => .ok a st
  | none => .bad
/-- a slot: nothing, a value, a list that this frame owns -/
inductive Sl where
  | un | val (u : U) | own (us : List U)
abbrev Env := List Sl
abbrev DE := Env → Store → Rs U
abbrev DA := Env → Store → Rs (List U)
abbrev DT := Env → Store → Rs Bool

/-! ### how data lies in the heap -/
def KL (K : PySem.W.Frag) (a : Addr) (xs : List V) : Prop :=
  ∃ (o : Obj) (its : Array Value) (n : Nat), K.lookup a = some o ∧ o.cls = .type "list" ∧ o.dict = none ∧ o.data = .seq its n ∧ its.size ≤ sizeLine ∧ Vals xs its.toList
def KT (K : PySem.W.Frag) (a : Addr) (xs : List V) : Prop :=
  ∃ (o : Obj) (its : Array Value) (n : Nat), K.lookup a = some o ∧ o.cls = .type "tuple" ∧ o.data = .seq its n ∧ its.size ≤ sizeLine ∧ Vals xs its.toList
/-- never written: W tells what may be -/
def LL (K : PySem.W.Frag) (W : Addr → Prop) (H : Hp) (a : Addr) (xs : List V) : Prop := H a = some (.lst xs) ∧ ¬ W a
/-- the script -/
def LS (K : PySem.W.Frag) (W : Addr → Prop) (H : Hp) (a : Addr) (xs : List V) : Prop := (Rd H a (.lst xs) ∧ ¬ W a) ∨ KL K a xs
def LT (K : PySem.W.Frag) (W : Addr → Prop) (H : Hp) (a : Addr) (xs : List V) : Prop := (Rd H a (.tup xs) ∧ ¬ W a) ∨ KT K a xs
theorem LL.sq {K : PySem.W.Frag} {W : Addr → Prop} {H : Hp} {a : Addr} {xs : List V} (h : LL K W H a xs) : SqL K H a xs := .inl (.inl h.1)
theorem LS.sq {K : PySem.W.Frag} {W : Addr → Prop} {H : Hp} {a : Addr} {xs : List V} (h : LS K W H a xs) : SqL K H a xs := h.elim (fun x => .inl x.1) .inr
theorem LT.sq {K : PySem.W.Frag} {W : Addr → Prop} {H : Hp} {a : Addr} {xs : List V} (h : LT K W H a xs) : SqT K H a xs := h.elim (fun x => .inl x.1) .inr

def kU : Key → U
  | .inl i => .int i
  | .inr x => .str x
/-- a dict that is never written: keys ints and texts, or tuples of such -/
def LD (W : Addr → Prop) (H : Hp) (a : Addr) (ks : List U) (vs : List V) : Prop := ¬ W a ∧
  ((∃ kvs : List (Key × V), Rd H a (.dK kvs) ∧ ks = kvs.map (fun p => kU p.1) ∧ vs = kvs.map (·.2)) ∨
   (∃ kvs : List (List Key × V), H a = some (.dT kvs) ∧ ks = kvs.map (fun p => U.tup (p.1.map kU)) ∧ vs = kvs.map (·.2)))

mutual
def Rep (K : PySem.W.Frag) (W : Addr → Prop) (io : List Addr) (H : Hp) : U → V → Prop
  | .non, v => v = .non
  | .bl b, v => v = .bl b
  | .int i, v => v = .int i
  | .str x, v => v = .str x
  | .ty n, v => v = .ty n
  | .ref n, v => ∃ a, io[n]? = some a ∧ v = .ref a
  | .tup us, v => ∃ a vs, v = .ref a ∧ LT K W H a vs ∧ Reps K W io H us vs
  | .lst us, v => ∃ a vs, v = .ref a ∧ LL K W H a vs ∧ Reps K W io H us vs
  | .dct ks us, v => ∃ a vs, v = .ref a ∧ LD W H a ks vs ∧ Reps K W io H us vs
  | .scr ns, v => ∃ a, v = .ref a ∧ LS K W H a (ns.map V.int)
def Reps (K : PySem.W.Frag) (W : Addr → Prop) (io : List Addr) (H : Hp) : List U → List V → Prop
  | [], vs => vs = []
  | u :: us, vs => ∃ v r, vs = v :: r ∧ Rep K W io H u v ∧ Reps K W io H us r
end

/-- what a way may turn: the store's own objects alone; what it adds is new -/
structure Ext (io : List Addr) (H : Hp) (io' : List Addr) (H' : Hp) : Prop where
  pre : ∃ more, io' = io ++ more ∧ ∀ a ∈ more, H a = none
  keep : ∀ a o, a ∉ io → H a = some o → H' a = some o
  stay : ∀ a o, H a = some o → ∃ o', H' a = some o'
def Wf (G : Addr → Prop) (io : List Addr) : Addr → Prop := fun a => G a ∨ a ∈ io

theorem Ext.refl (io : List Addr) (H : Hp) : Ext io H io H := ⟨⟨[], by simp, fun _ h => nomatch h⟩, fun _ _ _ h => h, fun _ o h => ⟨o, h⟩⟩
theorem Ext.same {io : List Addr} {H H' : Hp} (s : Same H H') : Ext io H io H' := ⟨⟨[], by simp, fun _ h => nomatch h⟩, fun a o _ h => s a o h, fun a o h => ⟨o, s a o h⟩⟩
theorem Ext.trans {io io1 io2 : List Addr} {H H1 H2 : Hp} (a : Ext io H io1 H1) (b : Ext io1 H1 io2 H2) : Ext io H io2 H2 := by
  have st := a.stay
  obtain ⟨m1, e1, f1⟩ := a.pre
  obtain ⟨m2, e2, f2⟩ := b.pre
  refine ⟨⟨m1 ++ m2, by rw [e2, e1, List.append_assoc], fun x hx => ?_⟩, fun x o hx h => ?_, fun x o h => let ⟨o1, e1⟩ := a.stay x o h; b.stay x o1 e1⟩
  · rcases List.mem_append.mp hx with h | h
    · exact f1 x h
    · have z := f2 x h
      cases q : H x with
      | none => rfl
      | some o =>
        obtain ⟨o', e⟩ := st x o q
        rw [e] at z; cases z
  · refine b.keep x o (fun z => ?_) (a.keep x o hx h)
    rw [e1] at z
    rcases List.mem_append.mp z with z | z
    · exact hx z
    · rw [f1 x z] at h; cases h

section
variable {K : PySem.W.Frag} {G : Addr → Prop} {io io' : List Addr} {H H' : Hp}
theorem Ext.io_get (e : Ext io H io' H') {n : Nat} {a : Addr} (h : io[n]? = some a) : io'[n]? = some a := by
  obtain ⟨m, rfl, _⟩ := e.pre
  rw [List.getElem?_append_left (List.getElem?_eq_some_iff.mp h).1]; exact h
theorem Ext.notW (e : Ext io H io' H') {a : Addr} {o : HO} (h : ¬ Wf G io a) (ho : H a = some o) : ¬ Wf G io' a := by
  obtain ⟨m, rfl, f⟩ := e.pre
  rintro (z | z)
  · exact h (.inl z)
  · rcases List.mem_append.mp z with z | z
    · exact h (.inr z)
    · rw [f a z] at ho; cases ho
theorem Ext.rd (e : Ext io H io' H') {a : Addr} {u : HO} (h : Rd H a u) (n : ¬ Wf G io a) : Rd H' a u ∧ ¬ Wf G io' a := by
  rcases h with h | ⟨o, h⟩
  · exact ⟨.inl (e.keep a _ (fun z => n (.inr z)) h), e.notW n h⟩
  · exact ⟨.inr ⟨o, e.keep a _ (fun z => n (.inr z)) h⟩, e.notW n h⟩
/-- what plain data stands still under -/
structure Mono (G : Addr → Prop) (io : List Addr) (H : Hp) (G' : Addr → Prop) (io' : List Addr) (H' : Hp) : Prop where
  pre : ∃ more, io' = io ++ more
  keep : ∀ a o, ¬ Wf G io a → H a = some o → H' a = some o ∧ ¬ Wf G' io' a
theorem Ext.mono (e : Ext io H io' H') : Mono G io H G io' H' := ⟨let ⟨m, q, _⟩ := e.pre; ⟨m, q⟩, fun a o n h => ⟨e.keep a o (fun z => n (.inr z)) h, e.notW n h⟩⟩
end
section
variable {K : PySem.W.Frag} {G G' : Addr → Prop} {io io' : List Addr} {H H' : Hp}
theorem Mono.rd (e : Mono G io H G' io' H') {a : Addr} {u : HO} (h : Rd H a u) (n : ¬ Wf G io a) : Rd H' a u ∧ ¬ Wf G' io' a := by
  rcases h with h | ⟨o, h⟩
  · exact ⟨.inl (e.keep a _ n h).1, (e.keep a _ n h).2⟩
  · exact ⟨.inr ⟨o, (e.keep a _ n h).1⟩, (e.keep a _ n h).2⟩
theorem LL.mono (e : Mono G io H G' io' H') {a : Addr} {xs : List V} (h : LL K (Wf G io) H a xs) : LL K (Wf G' io') H' a xs := e.keep a _ h.2 h.1
theorem LS.mono (e : Mono G io H G' io' H') {a : Addr} {xs : List V} (h : LS K (Wf G io) H a xs) : LS K (Wf G' io') H' a xs := h.elim (fun x => .inl (e.rd x.1 x.2)) .inr
theorem LT.mono (e : Mono G io H G' io' H') {a : Addr} {xs : List V} (h : LT K (Wf G io) H a xs) : LT K (Wf G' io') H' a xs := h.elim (fun x => .inl (e.rd x.1 x.2)) .inr
theorem LD.mono (e : Mono G io H G' io' H') {a : Addr} {ks : List U} {vs : List V} (h : LD (Wf G io) H a ks vs) : LD (Wf G' io') H' a ks vs := by
  obtain ⟨n, ⟨kvs, h1, h2⟩ | ⟨kvs, h1, h2⟩⟩ := h
  · exact ⟨(e.rd h1 n).2, .inl ⟨kvs, (e.rd h1 n).1, h2⟩⟩
  · exact ⟨(e.keep a _ n h1).2, .inr ⟨kvs, (e.keep a _ n h1).1, h2⟩⟩
mutual
theorem Rep.mono (e : Mono G io H G' io' H') : ∀ (u : U) (v : V), Rep K (Wf G io) io H u v → Rep K (Wf G' io') io' H' u v
  | .non, v, h => by unfold Rep at h ⊢; exact h
  | .bl b, v, h => by unfold Rep at h ⊢; exact h
  | .int i, v, h => by unfold Rep at h ⊢; exact h
  | .str x, v, h => by unfold Rep at h ⊢; exact h
  | .ty n, v, h => by unfold Rep at h ⊢; exact h
  | .ref n, v, h => by
    unfold Rep at h ⊢
    obtain ⟨a, h1, h2⟩ := h
    obtain ⟨m, rfl⟩ := e.pre
    exact ⟨a, by rw [List.getElem?_append_left (List.getElem?_eq_some_iff.mp h1).1]; exact h1, h2⟩
  | .tup us, v, h => by
    unfold Rep at h ⊢
    obtain ⟨a, vs, h1, h2, h3⟩ := h
    exact ⟨a, vs, h1, h2.mono e, Reps.mono e us vs h3⟩
  | .lst us, v, h => by
    unfold Rep at h ⊢
    obtain ⟨a, vs, h1, h2, h3⟩ := h
    exact ⟨a, vs, h1, h2.mono e, Reps.mono e us vs h3⟩
  | .dct ks us, v, h => by
    unfold Rep at h ⊢
    obtain ⟨a, vs, h1, h2, h3⟩ := h
    exact ⟨a, vs, h1, h2.mono e, Reps.mono e us vs h3⟩
  | .scr ns, v, h => by
    unfold Rep at h ⊢
    obtain ⟨a, h1, h2⟩ := h
    exact ⟨a, h1, h2.mono e⟩
theorem Reps.mono (e : Mono G io H G' io' H') : ∀ (us : List U) (vs : List V), Reps K (Wf G io) io H us vs → Reps K (Wf G' io') io' H' us vs
  | [], vs, h => by unfold Reps at h ⊢; exact h
  | u :: us, vs, h => by
    unfold Reps at h ⊢
    obtain ⟨v, r, h1, h2, h3⟩ := h
    exact ⟨v, r, h1, Rep.mono e u v h2, Reps.mono e us r h3⟩
end
theorem Rep.ext (e : Ext io H io' H') (u : U) (v : V) (h : Rep K (Wf G io) io H u v) : Rep K (Wf G io') io' H' u v := Rep.mono e.mono u v h
theorem Reps.ext (e : Ext io H io' H') (u : List U) (v : List V) (h : Reps K (Wf G io) io H u v) : Reps K (Wf G io') io' H' u v := Reps.mono e.mono u v h
end

section
variable {K : PySem.W.Frag} {W : Addr → Prop} {io : List Addr} {H : Hp}
theorem Reps.nil : Reps K W io H [] [] := by unfold Reps; rfl
theorem Reps.cons {u : U} {v : V} {us : List U} {vs : List V} (h : Rep K W io H u v) (t : Reps K W io H us vs) : Reps K W io H (u :: us) (v :: vs) := by unfold Reps; exact ⟨v, vs, rfl, h, t⟩
theorem Reps.uncons {u : U} {us : List U} {vs : List V} (h : Reps K W io H (u :: us) vs) : ∃ v r, vs = v :: r ∧ Rep K W io H u v ∧ Reps K W io H us r := by unfold Reps at h; exact h
theorem Reps.isNil {vs : List V} (h : Reps K W io H [] vs) : vs = [] := by unfold Reps at h; exact h
theorem Reps.length : ∀ {us : List U} {vs : List V}, Reps K W io H us vs → us.length = vs.length
  | [], _, h => by rw [h.isNil]; rfl
  | u :: us, _, h => by
    obtain ⟨v, r, rfl, _, t⟩ := h.uncons
    simp [Reps.length t]
theorem Reps.get : ∀ {us : List U} {vs : List V} {i : Nat} {u : U}, Reps K W io H us vs → us[i]? = some u → ∃ v, vs[i]? = some v ∧ Rep K W io H u v
  | [], _, _, _, _, e => by simp at e
  | u :: us, _, 0, _, h, e => by
    obtain ⟨v, r, rfl, q, t⟩ := h.uncons
    simp at e; subst e
    exact ⟨v, rfl, q⟩
  | u :: us, _, i + 1, _, h, e => by
    obtain ⟨v, r, rfl, q, t⟩ := h.uncons
    simpa using Reps.get t (by simpa using e)
theorem Reps.append : ∀ {us ws : List U} {vs xs : List V}, Reps K W io H us vs → Reps K W io H ws xs → Reps K W io H (us ++ ws) (vs ++ xs)
  | [], _, _, _, h, t => by rw [h.isNil]; exact t
  | u :: us, _, _, _, h, t => by
    obtain ⟨v, r, rfl, q, t'⟩ := h.uncons
    exact .cons q (Reps.append t' t)
theorem Reps.take : ∀ {us : List U} {vs : List V} (n : Nat), Reps K W io H us vs → Reps K W io H (us.take n) (vs.take n)
  | _, _, 0, _ => by simp; exact .nil
  | [], _, n + 1, h => by rw [h.isNil]; exact .nil
  | u :: us, _, n + 1, h => by
    obtain ⟨v, r, rfl, q, t⟩ := h.uncons
    exact .cons q (Reps.take n t)
theorem Reps.drop : ∀ {us : List U} {vs : List V} (n : Nat), Reps K W io H us vs → Reps K W io H (us.drop n) (vs.drop n)
  | _, _, 0, h => h
  | [], _, n + 1, h => by rw [h.isNil]; exact .nil
  | u :: us, _, n + 1, h => by
    obtain ⟨v, r, rfl, q, t⟩ := h.uncons
    exact Reps.drop n t
theorem Reps.ofInts : ∀ {ns : List Int} {vs : List V}, Reps K W io H (ns.map U.int) vs → vs = ns.map V.int
  | [], _, h => h.isNil
  | n :: ns, _, h => by
    obtain ⟨v, r, rfl, q, t⟩ := h.uncons
    unfold Rep at q
    rw [q, Reps.ofInts t]; rfl
theorem Reps.ints (ns : List Int) : Reps K W io H (ns.map U.int) (ns.map V.int) := by
  induction ns with
  | nil => exact .nil
  | cons n ns ih => exact .cons (by unfold Rep; rfl) ih
theorem Reps.ofBls : ∀ {ns : List Bool} {vs : List V}, Reps K W io H (ns.map U.bl) vs → vs = ns.map V.bl
  | [], _, h => h.isNil
  | n :: ns, _, h => by
    obtain ⟨v, r, rfl, q, t⟩ := h.uncons
    unfold Rep at q
    rw [q, Reps.ofBls t]; rfl
theorem Reps.ofStrs : ∀ {ns : List Str} {vs : List V}, Reps K W io H (ns.map U.str) vs → vs = ns.map V.str
  | [], _, h => h.isNil
  | n :: ns, _, h => by
    obtain ⟨v, r, rfl, q, t⟩ := h.uncons
    unfold Rep at q
    rw [q, Reps.ofStrs t]; rfl
theorem Reps.strs (ns : List Str) : Reps K W io H (ns.map U.str) (ns.map V.str) := by
  induction ns with
  | nil => exact .nil
  | cons n ns ih => exact .cons (by unfold Rep; rfl) ih
end

/-- no dict of an exception -/
def NX (o : HO) : Prop := ∀ ws, o ≠ .xd ws
theorem nx_lst {vs : List V} : NX (.lst vs) := fun _ z => nomatch z
/-- the class of a name -/
def clsAt (K : PySem.W.Frag) (c : Str) : Option Addr := match PySem.W.nsIn K mainGlobals c with
  | some (some (.ref C)) => some C
  | _ => none
/-- an exception that was caught -/
def exk (cls : Value) (d : Option Addr) (a : Addr) : HO := .ext fun h => ∃ (oe : Obj) (vs : Array Value), h.get? a = some oe ∧ Zc cls d oe ∧ oe.data = .fields vs
theorem nx_exk {cls : Value} {d : Option Addr} {a : Addr} : NX (exk cls d a) := fun ws z => by
  have z' : HO.ext _ = HO.xd ws := z
  cases z'
def flatE : U → Option V
  | .non => some .non
  | .bl b => some (.bl b)
  | .int i => some (.int i)
  | .str x => some (.str x)
  | _ => none
/-- the fields of an exception -/
def XD (fs : List (Str × U)) (d : Option Addr) (H : Hp) : Prop := (fs = [] ∧ d = none) ∨ ∃ dd ws, d = some dd ∧ H dd = some (.xd ws) ∧ fs.map (fun p => (p.1, flatE p.2)) = ws.map (fun p => (p.1, some p.2))
theorem XD.keep {fs : List (Str × U)} {d : Option Addr} {H H' : Hp} (h : XD fs d H) (k : ∀ dd ws, H dd = some (.xd ws) → H' dd = some (.xd ws)) : XD fs d H' := by
  rcases h with h | ⟨dd, ws, h1, h2, h3⟩
  · exact .inl h
  · exact .inr ⟨dd, ws, h1, k dd ws h2, h3⟩
/-- an object of the store -/
def ObRep (K : PySem.W.Frag) (W : Addr → Prop) (io : List Addr) (H : Hp) (a : Addr) : Ob → Prop
  | .lst us => ∃ vs, H a = some (.lst vs) ∧ Reps K W io H us vs
  | .dct ks us => ∃ kvs : List (Key × V), H a = some (.dK kvs) ∧ ks = kvs.map (fun p => kU p.1) ∧ Reps K W io H us (kvs.map (·.2))
  | .dcT ks us => ∃ kvs : List (List Key × V), H a = some (.dT kvs) ∧ ks = kvs.map (fun p => p.1.map kU) ∧ Reps K W io H us (kvs.map (·.2))
  | .obj c fs => ∃ C dx vs, clsAt K c = some C ∧ H a = some (.ins C dx ((fs.map (·.1)).zip vs)) ∧ Reps K W io H (fs.map (·.2)) vs
  | .ins c fs => ∃ C d, clsAt K c = some C ∧ H a = some (exk (.ref C) d a) ∧ XD fs d H
  | .gone => True
/-- the store lies in the heap; G: what is written by none of these ways, and never plain data -/
structure Ok (K : PySem.W.Frag) (G : Addr → Prop) (io : List Addr) (st : Store) (H : Hp) : Prop where
  nd : io.Nodup
  dj : ∀ a ∈ io, ¬ G a
  trk : ∀ a, Wf G io a → ∃ o, H a = some o ∧ NX o
  len : st.length = io.length
  obs : ∀ (n : Nat) (ob : Ob) (a : Addr), st[n]? = some ob → io[n]? = some a → ObRep K (Wf G io) io H a ob

def SlRep (K : PySem.W.Frag) (G : Addr → Prop) (io : List Addr) (H : Hp) : Sl → Option V → Prop
  | .un, _ => True
  | .val u, o => ∃ v, o = some v ∧ Rep K (Wf G io) io H u v
  | .own us, o => ∃ a vs, o = some (.ref a) ∧ G a ∧ H a = some (.lst vs) ∧ Reps K (Wf G io) io H us vs
structure EnvRep (K : PySem.W.Frag) (G : Addr → Prop) (io : List Addr) (H : Hp) (env : Env) (sg : St) : Prop where
  len : env.length = sg.length
  sl : ∀ (i : Nat) s o, env[i]? = some s → sg[i]? = some o → SlRep K G io H s o

section
variable {K : PySem.W.Frag} {G : Addr → Prop} {io io' : List Addr} {H H' : Hp} {st : Store} {env : Env} {sg : St}
theorem Ok.same (h : Ok K G io st H) (s : Same H H') : Ok K G io st H' := ⟨h.nd, h.dj, fun a q => let ⟨o, e, x⟩ := h.trk a q; ⟨o, s a o e, x⟩, h.len, fun n ob a e1 e2 => by
  have q := h.obs n ob a e1 e2
  cases ob with
  | lst us =>
    obtain ⟨vs, q1, q2⟩ := q
    exact ⟨vs, s _ _ q1, q2.ext (Ext.same s)⟩
  | dct ks us =>
    obtain ⟨kvs, q1, q2, q3⟩ := q
    exact ⟨kvs, s _ _ q1, q2, q3.ext (Ext.same s)⟩
  | dcT ks us =>
    obtain ⟨kvs, q1, q2, q3⟩ := q
    exact ⟨kvs, s _ _ q1, q2, q3.ext (Ext.same s)⟩
  | obj c fs =>
    obtain ⟨C, dx, vs, q1, q2, q3⟩ := q
    exact ⟨C, dx, vs, q1, s _ _ q2, q3.ext (Ext.same s)⟩
  | ins c fs =>
    obtain ⟨C, d, q1, q2, q3⟩ := q
    exact ⟨C, d, q1, s _ _ q2, q3.keep fun dd ws z => s _ _ z⟩
  | gone => trivial⟩
theorem Ok.fresh (h : Ok K G io st H) {p : Addr} (hp : H p = none) : ¬ Wf G io p := fun q => by
  obtain ⟨o, e, _⟩ := h.trk p q
  rw [hp] at e; cases e
theorem EnvRep.ext (h : EnvRep K G io H env sg) (dj : ∀ a ∈ io, ¬ G a) (e : Ext io H io' H') : EnvRep K G io' H' env sg := ⟨h.len, fun i s o e1 e2 => by
  have q := h.sl i s o e1 e2
  cases s with
  | un => trivial
  | val u =>
    obtain ⟨v, q1, q2⟩ := q
    exact ⟨v, q1, q2.ext e⟩
  | own us =>
    obtain ⟨a, vs, q1, q2, q3, q4⟩ := q
    exact ⟨a, vs, q1, q2, e.keep a _ (fun z => dj a z q2) q3, q4.ext e⟩⟩
end

/-! ### readings -/
/-- what is wanted of a way's end: a value, an exception -/
def Wants {A : Type} (K : PySem.W.Frag) (G : Addr → Prop) (io : List Addr) (H : Hp) (R : Store → List Addr → Hp → A → Prop) (XR : Str → List (Str × U) → Store → List Addr → Hp → Prop) : Rs A → Prop
  | .ok a st' => ∀ io' H', Ok K G io' st' H' → Ext io H io' H' → R st' io' H' a
  | .ex c us st' => ∀ io' H', Ok K G io' st' H' → Ext io H io' H' → XR c us st' io' H'
  | .bad => False
section
variable {A B : Type} {K : PySem.W.Frag} {G : Addr → Prop} {io io1 : List Addr} {H H1 : Hp} {R R' : Store → List Addr → Hp → A → Prop} {XR XR' : Str → List (Str × U) → Store → List Addr → Hp → Prop}
theorem Wants.imp {r : Rs A} (h : Wants K G io H R XR r) (f : ∀ st' io' H' a, Ok K G io' st' H' → Ext io H io' H' → R st' io' H' a → R' st' io' H' a)
    (g : ∀ c us st' io' H', Ok K G io' st' H' → Ext io H io' H' → XR c us st' io' H' → XR' c us st' io' H') : Wants K G io H R' XR' r := by
  cases r with
  | ok a st => exact fun io' H' o e => f st io' H' a o e (h io' H' o e)
  | ex c us st => exact fun io' H' o e => g c us st io' H' o e (h io' H' o e)
  | bad => exact h
theorem Wants.impR {r : Rs A} (h : Wants K G io H R XR r) (f : ∀ st' io' H' a, Ok K G io' st' H' → Ext io H io' H' → R st' io' H' a → R' st' io' H' a) : Wants K G io H R' XR r := h.imp f fun _ _ _ _ _ _ _ q => q
theorem Wants.later {r : Rs A} (h : Wants K G io H R XR r) (e : Ext io H io1 H1) : Wants K G io1 H1 R XR r := by
  cases r with
  | ok a st => exact fun io' H' o e' => h io' H' o (e.trans e')
  | ex c us st => exact fun io' H' o e' => h io' H' o (e.trans e')
  | bad => exact h
theorem Wants.bind {R : Store → List Addr → Hp → B → Prop} {r : Rs A} {k : A → Store → Rs B} (h : Wants K G io H R XR (r.bind k)) : Wants K G io H (fun st1 io1 H1 a => Wants K G io1 H1 R XR (k a st1)) XR r := by
  cases r with
  | ok a st => exact fun io' H' o e' => Wants.later (r := k a st) h e'
  | ex c us st => exact h
  | bad => exact h
theorem Wants.here {a : A} {st : Store} (h : Wants K G io H R XR (.ok a st)) (ok : Ok K G io st H) : R st io H a := h io H ok (Ext.refl _ _)
theorem Wants.hereS {a : A} {st : Store} (h : Wants K G io H R XR (.ok a st)) (ok : Ok K G io st H) (s : Same H H1) : R st io H1 a := h io H1 (ok.same s) (Ext.same s)
end
/-- an exception as the layer tells it (class value, own dict) -/
abbrev XS := Str → List (Str × U) → Value → Option Addr → Hp → Prop
/-- what is wanted of an exception at the slots sg -/
abbrev XW (xs : XS) (wx : WX) (sg : L2.St) : Str → List (Str × U) → Store → List Addr → Hp → Prop := fun c us _ _ H' => ∀ cls d, xs c us cls d H' → wx cls d sg H'
def tD (K : PySem.W.Frag) (xs : XS) (wx : WX) (f : DE) : TE := fun sg H Q => ∃ G io st env, Ok K G io st H ∧ EnvRep K G io H env sg ∧
  Wants K G io H (fun _ io' H' u => ∀ v, Rep K (Wf G io') io' H' u v → Q v H') (XW xs wx sg) (f env st)
def tDT (K : PySem.W.Frag) (xs : XS) (wx : WX) (f : DT) : TT := fun sg H Q => ∃ G io st env, Ok K G io st H ∧ EnvRep K G io H env sg ∧
  Wants K G io H (fun _ _ H' b => Q b H') (XW xs wx sg) (f env st)
def tDA (K : PySem.W.Frag) (xs : XS) (wx : WX) (f : DA) : TA := fun sg H Q => ∃ G io st env, Ok K G io st H ∧ EnvRep K G io H env sg ∧
  Wants K G io H (fun _ io' H' us => ∀ vs, Reps K (Wf G io') io' H' us vs → Q vs H') (XW xs wx sg) (f env st)
theorem pe_imp {X : Cx} {e : Expr} {t t' : TE} (h : PE X e t) (f : ∀ sg H Q, t' sg H Q → t sg H Q) : PE X e t' := ⟨fun pins s sg H Q I q => h.run pins s sg H Q I (f sg H Q q)⟩
theorem pt_imp {X : Cx} {e : Expr} {t t' : TT} (h : PT X e t) (f : ∀ sg H Q, t' sg H Q → t sg H Q) : PT X e t' := ⟨fun pins s sg H Q I q => h.run pins s sg H Q I (f sg H Q q)⟩
theorem pw_imp {X : Cx} {e : Expr} {t t' : TT} (h : PW X e t) (f : ∀ sg H Q, t' sg H Q → t sg H Q) : PW X e t' := ⟨fun wh pins s sg H Q I q => h.run wh pins s sg H Q I (f sg H Q q)⟩
theorem pa_imp {X : Cx} {e : List Expr} {t t' : TA} (h : PA X e t) (f : ∀ sg H Q, t' sg H Q → t sg H Q) : PA X e t' := ⟨fun pos pins s sg H Q I q => h.run pos pins s sg H Q I (f sg H Q q)⟩
theorem ps_imp {X : Cx} {e : Stmt} {t t' : TS} (h : PS X e t) (f : ∀ D sg H, t' D sg H → t D sg H) : PS X e t' := ⟨fun pins s sg H D I q => h.run pins s sg H D I (f D sg H q)⟩
theorem pss_imp {X : Cx} {e : List Stmt} {t t' : TS} (h : PSs X e t) (f : ∀ D sg H, t' D sg H → t D sg H) : PSs X e t' := ⟨fun pins s sg H D I q => h.run pins s sg H D I (f D sg H q)⟩

/-! ### expressions -/
def cst (u : U) : DE := fun _ st => .ok u st
def var (i : Nat) : DE := fun env st => match env[i]? with
  | some (.val u) => .ok u st
  | _ => .bad
/-- .. where it is but read -/
def peek (i : Nat) : DE := fun env st => match env[i]? with
  | some (.val u) => .ok u st
  | some (.own us) => .ok (.lst us) st
  | _ => .bad
def bin (g : U → U → Option U) (a b : DE) : DE := fun env st => (a env st).bind fun u st1 => (b env st1).bind fun v st2 => Rs.of (g u v) st2
def anil : DA := fun _ st => .ok [] st
def acons (a : DE) (b : DA) : DA := fun env st => (a env st).bind fun u st1 => (b env st1).bind fun us st2 => .ok (u :: us) st2
def appN (g : List U → Option U) (a : DA) : DE := fun env st => (a env st).bind fun us st1 => Rs.of (g us) st1
def appU (g : List U → Store → Rs U) (a : DA) : DE := fun env st => (a env st).bind fun us st1 => g us st1
def tst (a : DE) : DT := fun env st => (a env st).bind fun u st1 => match u with
  | .bl b => .ok b st1
  | _ => .bad
def andT (a b : DT) : DT := fun env st => (a env st).bind fun c st1 => if c = true then b env st1 else .ok false st1
def orT (a b : DT) : DT := fun env st => (a env st).bind fun c st1 => if c = true then .ok true st1 else b env st1
def notT (a : DT) : DT := fun env st => (a env st).bind fun c st1 => .ok (!c) st1
/-- a test's answer as a value -/
def ofT (a : DT) : DE := fun env st => (a env st).bind fun c st1 => .ok (.bl c) st1
def chain (g h : U → U → Option U) (a b c : DE) : DE := fun env st => (a env st).bind fun u st1 => (b env st1).bind fun v st2 => match g u v with
  | some (.bl k) => if k = true then (c env st2).bind fun w st3 => Rs.of (h v w) st3 else .ok (.bl false) st2
  | _ => .bad
end D
namespace D
open PySem L2
section
variable {X : Cx} {xs : XS} {wx : WX} {pos : Pos}

theorem d_cst {e : Expr} {v : V} {u : U} (h : PE X e (tC v)) (r : ∀ G io H, Rep X.K (Wf G io) io H u v) : PE X e (tD X.K xs wx (cst u)) := pe_imp h fun sg H Q q => by
  obtain ⟨G, io, st, env, ok, er, w⟩ := q
  exact w.here ok v (r _ _ _)
theorem d_int {i j} : PE X (.Constant (.int i) j pos) (tD X.K xs wx (cst (.int i))) := d_cst pe_int fun _ _ _ => by unfold Rep; rfl
theorem d_bl {i j} : PE X (.Constant (.bool i) j pos) (tD X.K xs wx (cst (.bl i))) := d_cst pe_bl fun _ _ _ => by unfold Rep; rfl
theorem d_non {j} : PE X (.Constant .none j pos) (tD X.K xs wx (cst .non)) := d_cst pe_non fun _ _ _ => by unfold Rep; rfl
theorem d_str {i j} : PE X (.Constant (.str i) j pos) (tD X.K xs wx (cst (.str i))) := d_cst pe_str fun _ _ _ => by unfold Rep; rfl
theorem Rs.of_bad {A : Type} {r : Rs A} {K G io H R XR} (h : Wants (A := A) K G io H R XR r) : r ≠ .bad := fun e => by rw [e] at h; exact h

theorem d_var (i : Nat) {x : Str} (hN : X.N[i]? = some x) (hv : Vis X.env.scope x) (hd : (x == ("__debug__" : Str)) = false := by decide) (hcd : (x == ("__classdict__" : Str)) = false := by decide) : PE X (.Name x pos) (tD X.K xs wx (var i)) :=
  pe_imp (pe_var (i := i) hN hv hd hcd) fun sg H Q q => by
    obtain ⟨G, io, st, env, ok, er, w⟩ := q
    unfold var at w
    split at w
    · rename_i u e
      have hi : i < sg.length := by rw [← er.len]; exact (List.getElem?_eq_some_iff.mp e).1
      obtain ⟨v, e1, r⟩ := er.sl i _ _ e (List.getElem?_eq_getElem hi)
      exact ⟨v, (List.getElem?_eq_getElem hi).trans (congrArg some e1), w.here ok v r⟩
    · exact w.elim

/-! ### operators: pure ones by values -/
def P2 (K : PySem.W.Frag) (g : U → U → Option U) : R2 := fun x y H Q => ∃ G io st u1 u2 u, Ok K G io st H ∧ Rep K (Wf G io) io H u1 x ∧ Rep K (Wf G io) io H u2 y ∧ g u1 u2 = some u ∧
  ∀ v H', Same H H' → Rep K (Wf G io) io H' u v → Q v H'
def PN (K : PySem.W.Frag) (g : List U → Option U) : List V → Hp → VK → Prop := fun vs H Q => ∃ G io st us u, Ok K G io st H ∧ Reps K (Wf G io) io H us vs ∧ g us = some u ∧
  ∀ v H', Same H H' → Rep K (Wf G io) io H' u v → Q v H'
def P1 (K : PySem.W.Frag) (g : U → Option U) : V → Hp → VK → Prop := fun x H Q => ∃ G io st u1 u, Ok K G io st H ∧ Rep K (Wf G io) io H u1 x ∧ g u1 = some u ∧
  ∀ v H', Same H H' → Rep K (Wf G io) io H' u v → Q v H'

theorem Wants.pure {A : Type} {K G io H} {R : Store → List Addr → Hp → A → Prop} {XR} {o : Option A} {st : Store} (w : Wants K G io H R XR (Rs.of o st)) : ∃ a, o = some a ∧ Wants K G io H R XR (.ok a st) := by
  cases o with
  | none => exact w.elim
  | some a => exact ⟨a, rfl, w⟩
theorem bin_read {g : U → U → Option U} {fa fb : DE} {sg : L2.St} {H : Hp} {Q : VK} (h : tD X.K xs wx (bin g fa fb) sg H Q) : tOp (P2 X.K g) (tD X.K xs wx fa) (tD X.K xs wx fb) sg H Q := by
  obtain ⟨G, io, st, env, ok, er, w⟩ := h
  refine ⟨G, io, st, env, ok, er, w.bind.impR fun st1 io1 H1 u ok1 e1 w1 v rv => ?_⟩
  refine ⟨G, io1, st1, env, ok1, er.ext ok.dj e1, w1.bind.impR fun st2 io2 H2 u2 ok2 e2 w2 v2 rv2 => ?_⟩
  obtain ⟨a, ha, w3⟩ := w2.pure
  exact ⟨G, io2, st2, u, u2, a, ok2, rv.ext e2, rv2, ha, fun v' H' s r => w3.hereS ok2 s v' r⟩
theorem d_bin {op : Operator} {g : U → U → Option U} {a b : Expr} {fa fb : DE} (ho : OpR X (binaryOp op) (P2 X.K g)) (ha : PE X a (tD X.K xs wx fa)) (hb : PE X b (tD X.K xs wx fb)) : PE X (.BinOp a op b pos) (tD X.K xs wx (bin g fa fb)) :=
  pe_imp (pe_op ho ha hb) fun _ _ _ h => bin_read h
theorem d_cmp {op : CmpOp} {g : U → U → Option U} {a b : Expr} {fa fb : DE} (ho : OpR X (compareOp op) (P2 X.K g)) (ha : PE X a (tD X.K xs wx fa)) (hb : PE X b (tD X.K xs wx fb)) (hm : behindInMarks op b = false := by first | exact nomark _ | rfl) : PE X (.Compare a [op] [b] pos) (tD X.K xs wx (bin g fa fb)) :=
  pe_imp (pe_cmpR ho ha hb hm) fun _ _ _ h => bin_read h
theorem tst_read {f : DE} {t : TE} {sg : L2.St} {H : Hp} {Q : Bool → Hp → Prop} (h : tDT X.K xs wx (tst f) sg H Q) : tD X.K xs wx f sg H (fun x H1 => ∃ k, x = .bl k ∧ Q k H1) := by
  obtain ⟨G, io, st, env, ok, er, w⟩ := h
  refine ⟨G, io, st, env, ok, er, w.bind.impR fun st1 io1 H1 u ok1 e1 w1 v rv => ?_⟩
  cases u with
  | bl b => exact ⟨b, by unfold Rep at rv; exact rv, w1.here ok1⟩
  | _ => exact w1.elim
/-- a comparison as a test -/
theorem t_cmp {op : CmpOp} {g : U → U → Option U} {a b : Expr} {fa fb : DE} (ho : OpR X (compareOp op) (P2 X.K g)) (ha : PE X a (tD X.K xs wx fa)) (hb : PE X b (tD X.K xs wx fb)) (hm : behindInMarks op b = false := by first | exact nomark _ | rfl) :
    PT X (.Compare a [op] [b] pos) (tDT X.K xs wx (tst (bin g fa fb))) := pt_imp (pt_cmpR ho ha hb hm) fun sg H Q h => by
  obtain ⟨G, io, st, env, ok, er, w⟩ := h
  refine bin_read (Q := fun x H1 => ∃ k, x = .bl k ∧ Q k H1) ?_
  exact tst_read (t := tVar 0) ⟨G, io, st, env, ok, er, w⟩
theorem chain_read {g h : U → U → Option U} {fa fb fc : DE} {sg : L2.St} {H : Hp} {Q : VK} (hh : tD X.K xs wx (chain g h fa fb fc) sg H Q) : tChain (P2 X.K g) (P2 X.K h) (tD X.K xs wx fa) (tD X.K xs wx fb) (tD X.K xs wx fc) sg H Q := by
  obtain ⟨G, io, st, env, ok, er, w⟩ := hh
  refine ⟨G, io, st, env, ok, er, w.bind.impR fun st1 io1 H1 u ok1 e1 w1 v rv => ?_⟩
  refine ⟨G, io1, st1, env, ok1, er.ext ok.dj e1, w1.bind.impR fun st2 io2 H2 u2 ok2 e2 w2 v2 rv2 => ?_⟩
  have er2 := (er.ext ok.dj e1).ext ok1.dj e2
  split at w2
  · rename_i k eg
    refine ⟨G, io2, st2, u, u2, .bl k, ok2, rv.ext e2, rv2, eg, fun z H3 s3 r3 => ⟨k, by unfold Rep at r3; exact r3, ?_⟩⟩
    have e3 : Ext io2 H2 io2 H3 := Ext.same s3
    cases k with
    | true =>
      rw [if_pos rfl] at w2 ⊢
      refine ⟨G, io2, st2, env, ok2.same s3, er2.ext ok2.dj e3, (w2.later e3).bind.impR fun st4 io4 H4 u4 ok4 e4 w4 v4 rv4 => ?_⟩
      obtain ⟨a, ha, w5⟩ := w4.pure
      exact ⟨G, io4, st4, u2, u4, a, ok4, (rv2.ext e3).ext e4, rv4, ha, fun v' H' s r => w5.hereS ok4 s v' r⟩
    | false =>
      rw [if_neg Bool.false_ne_true] at w2 ⊢
      exact w2.hereS ok2 s3 _ (by unfold Rep; rfl)
  · exact w2.elim
theorem d_chain {op op' : CmpOp} {g h : U → U → Option U} {a b c : Expr} {fa fb fc : DE} (ho : OpR X (compareOp op) (P2 X.K g)) (ho' : OpR X (compareOp op') (P2 X.K h)) (ha : PE X a (tD X.K xs wx fa)) (hb : PE X b (tD X.K xs wx fb)) (hc : PE X c (tD X.K xs wx fc))
    (hm : lastMarks [op, op'] [b, c] = false := by with_unfolding_all rfl) : PE X (.Compare a [op, op'] [b, c] pos) (tD X.K xs wx (chain g h fa fb fc)) := pe_imp (pe_chain ho ho' ha hb hc hm) fun _ _ _ h => chain_read h
theorem t_chain {op op' : CmpOp} {g h : U → U → Option U} {a b c : Expr} {fa fb fc : DE} (ho : OpR X (compareOp op) (P2 X.K g)) (ho' : OpR X (compareOp op') (P2 X.K h)) (ha : PE X a (tD X.K xs wx fa)) (hb : PE X b (tD X.K xs wx fb)) (hc : PE X c (tD X.K xs wx fc))
    (hm : lastMarks [op, op'] [b, c] = false := by with_unfolding_all rfl) : PT X (.Compare a [op, op'] [b, c] pos) (tDT X.K xs wx (tst (chain g h fa fb fc))) := pt_imp (pt_chain ho ho' ha hb hc hm) fun sg H Q h => chain_read (tst_read (t := tVar 0) h)
/-- another expression as a test -/
theorem t_val {e : Expr} {f : DE} (h : PE X e (tD X.K xs wx f)) (he : ∀ whole, isTrue e X.env whole = (do let v ← whole; standAt e.pos; holding [v] (truthy v)) := by intro _; rfl) : PT X e (tDT X.K xs wx (tst f)) :=
  pt_imp (pt_val h he) fun sg H Q h => tst_read (t := tVar 0) h
theorem t_not {e : Expr} {f : DT} (h : PT X e (tDT X.K xs wx f)) : PT X (.UnaryOp .Not e pos) (tDT X.K xs wx (notT f)) := pt_imp (pt_not h) fun sg H Q h => by
  obtain ⟨G, io, st, env, ok, er, w⟩ := h
  exact ⟨G, io, st, env, ok, er, w.bind.impR fun st1 io1 H1 u ok1 e1 w1 => w1.here ok1⟩
variable {a b : Expr} {rest : List Expr}
theorem w_and1 {f : DT} (ha : PT X a (tDT X.K xs wx f)) : PW X (.BoolOp .And [a] pos) (tDT X.K xs wx f) := pw_and1 ha
theorem w_or1 {f : DT} (ha : PT X a (tDT X.K xs wx f)) : PW X (.BoolOp .Or [a] pos) (tDT X.K xs wx f) := pw_or1 ha
theorem w_and {f g : DT} (ha : PT X a (tDT X.K xs wx f)) (hb : PW X (.BoolOp .And (b :: rest) pos) (tDT X.K xs wx g)) : PW X (.BoolOp .And (a :: b :: rest) pos) (tDT X.K xs wx (andT f g)) := pw_imp (pw_and ha hb) fun sg H Q h => by
  obtain ⟨G, io, st, env, ok, er, w⟩ := h
  refine ⟨G, io, st, env, ok, er, w.bind.impR fun st1 io1 H1 c ok1 e1 w1 => ?_⟩
  cases c with
  | true => exact ⟨G, io1, st1, env, ok1, er.ext ok.dj e1, w1⟩
  | false => exact Wants.here (K := X.K) (G := G) (io := io1) (a := false) w1 ok1
theorem w_or {f g : DT} (ha : PT X a (tDT X.K xs wx f)) (hb : PW X (.BoolOp .Or (b :: rest) pos) (tDT X.K xs wx g)) : PW X (.BoolOp .Or (a :: b :: rest) pos) (tDT X.K xs wx (orT f g)) := pw_imp (pw_or ha hb) fun sg H Q h => by
  obtain ⟨G, io, st, env, ok, er, w⟩ := h
  refine ⟨G, io, st, env, ok, er, w.bind.impR fun st1 io1 H1 c ok1 e1 w1 => ?_⟩
  cases c with
  | false => exact ⟨G, io1, st1, env, ok1, er.ext ok.dj e1, w1⟩
  | true => exact Wants.here (K := X.K) (G := G) (io := io1) (a := true) w1 ok1
/-- and, or as values, of truths -/
def andV (a b : DE) : DE := fun env st => (a env st).bind fun u st1 => match u with
  | .bl c => if c = true then b env st1 else .ok (.bl false) st1
  | _ => .bad
def orV (a b : DE) : DE := fun env st => (a env st).bind fun u st1 => match u with
  | .bl c => if c = true then .ok (.bl true) st1 else b env st1
  | _ => .bad
def notV (a : DE) : DE := fun env st => (a env st).bind fun u st1 => match u with
  | .bl c => .ok (.bl (!c)) st1
  | _ => .bad
theorem d_one {op} {f : DE} (h : PE X a (tD X.K xs wx f)) : PE X (.BoolOp op [a] pos) (tD X.K xs wx f) := pe_one h
theorem d_and {f g : DE} (ha : PE X a (tD X.K xs wx f)) (hb : PE X (.BoolOp .And (b :: rest) pos) (tD X.K xs wx g)) : PE X (.BoolOp .And (a :: b :: rest) pos) (tD X.K xs wx (andV f g)) := pe_imp (pe_and ha hb) fun sg H Q h => by
  obtain ⟨G, io, st, env, ok, er, w⟩ := h
  refine ⟨G, io, st, env, ok, er, w.bind.impR fun st1 io1 H1 u ok1 e1 w1 v rv => ?_⟩
  cases u with
  | bl c =>
    unfold Rep at rv
    refine ⟨c, rv, ?_⟩
    cases c with
    | true => exact ⟨G, io1, st1, env, ok1, er.ext ok.dj e1, w1⟩
    | false => exact Wants.here (K := X.K) (G := G) (io := io1) (a := U.bl false) w1 ok1 _ (by unfold Rep; rfl)
  | _ => exact w1.elim
theorem d_or {f g : DE} (ha : PE X a (tD X.K xs wx f)) (hb : PE X (.BoolOp .Or (b :: rest) pos) (tD X.K xs wx g)) : PE X (.BoolOp .Or (a :: b :: rest) pos) (tD X.K xs wx (orV f g)) := pe_imp (pe_or ha hb) fun sg H Q h => by
  obtain ⟨G, io, st, env, ok, er, w⟩ := h
  refine ⟨G, io, st, env, ok, er, w.bind.impR fun st1 io1 H1 u ok1 e1 w1 v rv => ?_⟩
  cases u with
  | bl c =>
    unfold Rep at rv
    refine ⟨c, rv, ?_⟩
    cases c with
    | false => exact ⟨G, io1, st1, env, ok1, er.ext ok.dj e1, w1⟩
    | true => exact Wants.here (K := X.K) (G := G) (io := io1) (a := U.bl true) w1 ok1 _ (by unfold Rep; rfl)
  | _ => exact w1.elim
theorem d_not {f : DE} (ha : PE X a (tD X.K xs wx f)) : PE X (.UnaryOp .Not a pos) (tD X.K xs wx (notV f)) := pe_imp (pe_not ha) fun sg H Q h => by
  obtain ⟨G, io, st, env, ok, er, w⟩ := h
  refine ⟨G, io, st, env, ok, er, w.bind.impR fun st1 io1 H1 u ok1 e1 w1 v rv => ?_⟩
  cases u with
  | bl c =>
    unfold Rep at rv
    exact ⟨c, rv, Wants.here (K := X.K) (G := G) (io := io1) (a := U.bl (!c)) w1 ok1 _ (by unfold Rep; rfl)⟩
  | _ => exact w1.elim
def ifE (c : DT) (a b : DE) : DE := fun env st => (c env st).bind fun t st1 => if t = true then a env st1 else b env st1
theorem d_ifE {c : Expr} {t : DT} {f g : DE} (hc : PT X c (tDT X.K xs wx t)) (ha : PE X a (tD X.K xs wx f)) (hb : PE X b (tD X.K xs wx g)) : PE X (.IfExp c a b pos) (tD X.K xs wx (ifE t f g)) := pe_imp (pe_ifExp hc ha hb) fun sg H Q h => by
  obtain ⟨G, io, st, env, ok, er, w⟩ := h
  refine ⟨G, io, st, env, ok, er, w.bind.impR fun st1 io1 H1 c ok1 e1 w1 => ?_⟩
  cases c with
  | false => exact ⟨G, io1, st1, env, ok1, er.ext ok.dj e1, w1⟩
  | true => exact ⟨G, io1, st1, env, ok1, er.ext ok.dj e1, w1⟩
/-! ### arguments, displays, calls -/
theorem a_nil : PA X [] (tDA X.K xs wx anil) := pa_imp pa_nil fun sg H Q h => by
  obtain ⟨G, io, st, env, ok, er, w⟩ := h
  exact w.here ok _ .nil
theorem a_cons {e : Expr} {es : List Expr} {f : DE} {g : DA} (ha : PE X e (tD X.K xs wx f)) (hr : PA X es (tDA X.K xs wx g)) (hs : starEach (e :: es) X.env = (false, eval e X.env) :: starEach es X.env := by rfl) : PA X (e :: es) (tDA X.K xs wx (acons f g)) := pa_imp (pa_cons ha hr hs) fun sg H Q h => by
  obtain ⟨G, io, st, env, ok, er, w⟩ := h
  refine ⟨G, io, st, env, ok, er, w.bind.impR fun st1 io1 H1 u ok1 e1 w1 v rv => ?_⟩
  refine ⟨G, io1, st1, env, ok1, er.ext ok.dj e1, w1.bind.impR fun st2 io2 H2 us ok2 e2 w2 vs rvs => ?_⟩
  exact w2.here ok2 _ (.cons (rv.ext e2) rvs)
theorem args_read {f : DA} {g : List U → Option U} {sg : L2.St} {H : Hp} {Q : VK} (h : tD X.K xs wx (appN g f) sg H Q) : tDA X.K xs wx f sg H (fun vs H1 => PN X.K g vs H1 Q) := by
  obtain ⟨G, io, st, env, ok, er, w⟩ := h
  refine ⟨G, io, st, env, ok, er, w.bind.impR fun st1 io1 H1 us ok1 e1 w1 vs rvs => ?_⟩
  obtain ⟨u, hu, w2⟩ := w1.pure
  exact ⟨G, io1, st1, us, u, ok1, rvs, hu, fun v H' s r => w2.hereS ok1 s v r⟩
theorem same_upd {H : Hp} {p : Addr} {o : HO} (h : H p = none) : Same H (upd H p o) := fun b x e => by
  rw [upd_ne (ne_of_none e h)]
  exact e
/-- new plain data -/
theorem Ok.newT {K : PySem.W.Frag} {G : Addr → Prop} {io : List Addr} {st : Store} {H : Hp} (ok : Ok K G io st H) {p : Addr} (hp : H p = none) {us : List U} {vs : List V} (r : Reps K (Wf G io) io H us vs) : Rep K (Wf G io) io (upd H p (.tup vs)) (.tup us) (.ref p) := by
  unfold Rep
  exact ⟨p, vs, rfl, .inl ⟨.inl upd_same, ok.fresh hp⟩, r.ext (Ext.same (same_upd hp))⟩
theorem Ok.newL {K : PySem.W.Frag} {G : Addr → Prop} {io : List Addr} {st : Store} {H : Hp} (ok : Ok K G io st H) {p : Addr} (hp : H p = none) {us : List U} {vs : List V} (r : Reps K (Wf G io) io H us vs) : Rep K (Wf G io) io (upd H p (.lst vs)) (.lst us) (.ref p) := by
  unfold Rep
  exact ⟨p, vs, rfl, ⟨upd_same, ok.fresh hp⟩, r.ext (Ext.same (same_upd hp))⟩
def szT (us : List U) : Option U := if us.length ≤ sizeLine then some (.tup us) else none
def szL (us : List U) : Option U := if us.length ≤ sizeLine then some (.lst us) else none
theorem d_tup {es : List Expr} {x1} {f : DA} (h : PA X es (tDA X.K xs wx f)) : PE X (.Tuple es x1 pos) (tD X.K xs wx (appN szT f)) := pe_imp (pe_tup h) fun sg H Q q => by
  obtain ⟨G, io, st, env, ok, er, w⟩ := args_read q
  refine ⟨G, io, st, env, ok, er, w.impR fun st1 io1 H1 us ok1 e1 w1 vs rvs => ?_⟩
  obtain ⟨G', io', st', us', u, ok', rvs', hu, fin⟩ := w1 vs rvs
  unfold szT at hu
  split at hu
  · rename_i hz
    cases hu
    refine ⟨by rw [← rvs'.length]; exact hz, fun p hp => fin _ _ (same_upd hp) (ok'.newT hp rvs')⟩
  · cases hu
theorem d_lst {es : List Expr} {f : DA} (h : PA X es (tDA X.K xs wx f)) : PE X (.List es pos) (tD X.K xs wx (appN szL f)) := pe_imp (pe_lst h) fun sg H Q q => by
  obtain ⟨G, io, st, env, ok, er, w⟩ := args_read q
  refine ⟨G, io, st, env, ok, er, w.impR fun st1 io1 H1 us ok1 e1 w1 vs rvs => ?_⟩
  obtain ⟨G', io', st', us', u, ok', rvs', hu, fin⟩ := w1 vs rvs
  unfold szL at hu
  split at hu
  · rename_i hz
    cases hu
    refine ⟨by rw [← rvs'.length]; exact hz, fun p hp => fin _ _ (same_upd hp) (ok'.newL hp rvs')⟩
  · cases hu
theorem d_callB {id : String} {x : Str} {p : Pos} {e : Expr} {es : List Expr} {g : List U → Option U} {f : DA} (hc : CallR X (.builtin id) (PN X.K g)) (hg : Gl X x) (hm : X.mg x = none) (hv : bootBuiltins x = some (.builtin id)) (ha : PA X (e :: es) (tDA X.K xs wx f)) (hn : x ≠ "__name__" := by decide)
    (hdb : (x == ("__debug__" : Str)) = false := by decide) (he : starEach (e :: es) X.env = (false, eval e X.env) :: starEach es X.env := by rfl) (hpl : (backTo pos (starEach es X.env)).any (·.1) = false := by rfl) : PE X (.Call (.Name x p) (e :: es) [] pos) (tD X.K xs wx (appN g f)) :=
  pe_imp (pe_callB hc hg hm hv ha hn hdb he hpl) fun _ _ _ h => args_read h
theorem d_callT {T : String} {x : Str} {p : Pos} {e : Expr} {es : List Expr} {g : List U → Option U} {f : DA} (hc : CallR X (.type T) (PN X.K g)) (hg : Gl X x) (hm : X.mg x = none) (hv : bootBuiltins x = some (.type T)) (ha : PA X (e :: es) (tDA X.K xs wx f)) (hn : x ≠ "__name__" := by decide)
    (hdb : (x == ("__debug__" : Str)) = false := by decide) (he : starEach (e :: es) X.env = (false, eval e X.env) :: starEach es X.env := by rfl) (hpl : (backTo pos (starEach es X.env)).any (·.1) = false := by rfl) : PE X (.Call (.Name x p) (e :: es) [] pos) (tD X.K xs wx (appN g f)) :=
  pe_imp (pe_callTy hc hg hm hv ha hn hdb he hpl) fun _ _ _ h => args_read h
/-! ### a def's promise -/
def spD (K : PySem.W.Frag) (xs : XS) (n : Nat) (g : List U → Store → Rs U) : Sp := fun vs H Q E => vs.length = n ∧ ∃ G io st us, Ok K G io st H ∧ Reps K (Wf G io) io H us vs ∧
  Wants K G io H (fun _ io' H' u => ∀ v, Rep K (Wf G io') io' H' u v → Q v H') (fun c us _ _ H' => ∀ cls d, xs c us cls d H' → E cls d H') (g us st)
theorem d_call {k : Nat} {f : Addr} {fd : FuncData} {ps : List Str} {n : Nat} {x : Str} {p : Pos} {e : Expr} {es : List Expr} {g : List U → Store → Rs U} {fa : DA} (tk : Takes X wx) (F : FnOk X.prog X.w X.K X.mg X.base (L2.CX X.prog X.w) k f fd ps (spD X.K xs n g)) (hr : Room k X.A) (hg : Gl X x) (hm : X.mg x = some (.ref f))
    (hk : PySem.W.keepIn X.K (.ref f) = true) (hb : Binds X.K fd ps []) (hgn : ∀ us st, us.length ≠ n → g us st = .bad) (ha : PA X (e :: es) (tDA X.K xs wx fa)) (hdb : (x == ("__debug__" : Str)) = false := by decide)
    (he : starEach (e :: es) X.env = (false, eval e X.env) :: starEach es X.env := by rfl) (hpl : (backTo pos (starEach es X.env)).any (·.1) = false := by rfl) : PE X (.Call (.Name x p) (e :: es) [] pos) (tD X.K xs wx (appU g fa)) :=
  pe_imp (pe_callSD (E := WE wx) (dvs := []) F hr hg hm hk hb .nil (fun s => passAt tk s) ha hdb he hpl) fun sg H Q h => by
    obtain ⟨G, io, st, env, ok, er, w⟩ := h
    refine ⟨G, io, st, env, ok, er, w.bind.impR fun st1 io1 H1 us ok1 e1 w1 vs rvs => ?_⟩
    have hn : us.length = n := Decidable.byContradiction fun z => by rw [hgn us st1 z] at w1; exact w1
    exact ⟨by rw [List.append_nil, ← rvs.length]; exact hn, G, io1, st1, us, ok1, by rw [List.append_nil]; exact rvs, w1⟩
end
end D
namespace D
open PySem L2
/-! ### statements -/
inductive Out where
  | nx (env : Env) (st : Store) | rt (u : U) (st : Store) | bk (env : Env) (st : Store) | ct (env : Env) (st : Store) | ex (c : Str) (us : List (Str × U)) (env : Env) (st : Store) | bad
abbrev DS := Env → Store → Out
def Rs.out {A : Type} (r : Rs A) (env : Env) (k : A → Store → Out) : Out := match r with
  | .ok a st => k a st
  | .ex c us st => .ex c us env st
  | .bad => .bad
def Out.seq (o : Out) (k : Env → Store → Out) : Out := match o with
  | .nx env st => k env st
  | o => o
/-- what the frame owns -/
def Ow (env : Env) (sg : L2.St) (a : Addr) : Prop := ∃ (i : Nat) (us : List U), env[i]? = some (.own us) ∧ sg[i]? = some (some (.ref a))
def Gs (F : Addr → Prop) (env : Env) (sg : L2.St) : Addr → Prop := fun a => F a ∨ Ow env sg a
structure Fr (K : PySem.W.Frag) (F : Addr → Prop) (io : List Addr) (st : Store) (env : Env) (sg : L2.St) (H : Hp) : Prop where
  ok : Ok K (Gs F env sg) io st H
  er : EnvRep K (Gs F env sg) io H env sg
  nF : ∀ a, Ow env sg a → ¬ F a
  dd : ∀ (i j : Nat) (a : Addr) (us us' : List U), env[i]? = some (.own us) → env[j]? = some (.own us') → sg[i]? = some (some (.ref a)) → sg[j]? = some (some (.ref a)) → i = j
structure ExtO (io : List Addr) (H : Hp) (O : Addr → Prop) (io' : List Addr) (H' : Hp) (O' : Addr → Prop) : Prop where
  pre : ∃ more, io' = io ++ more ∧ ∀ a ∈ more, H a = none ∨ O a
  keep : ∀ a o, a ∉ io → ¬ O a → H a = some o → H' a = some o
  stay : ∀ a o, H a = some o → ∃ o', H' a = some o'
  own : ∀ a, O' a → O a ∨ H a = none
section
variable {K : PySem.W.Frag} {F : Addr → Prop} {io io1 io2 io' : List Addr} {st st' : Store} {env env' : Env} {sg sg' : L2.St} {H H1 H2 H' : Hp} {O O1 O2 : Addr → Prop}
theorem Ext.o (e : Ext io H io' H') (O : Addr → Prop) : ExtO io H O io' H' O := ⟨let ⟨m, q1, q2⟩ := e.pre; ⟨m, q1, fun a h => .inl (q2 a h)⟩, fun a o h _ q => e.keep a o h q, e.stay, fun _ h => .inl h⟩
theorem ExtO.refl (io : List Addr) (H : Hp) (O : Addr → Prop) : ExtO io H O io H O := (Ext.refl io H).o O
theorem ExtO.trans (a : ExtO io H O io1 H1 O1) (b : ExtO io1 H1 O1 io2 H2 O2) : ExtO io H O io2 H2 O2 := by
  obtain ⟨m1, e1, f1⟩ := a.pre
  obtain ⟨m2, e2, f2⟩ := b.pre
  have back : ∀ x, H1 x = none → H x = none := fun x h => by
    cases q : H x with
    | none => rfl
    | some o =>
      obtain ⟨o', e⟩ := a.stay x o q
      rw [e] at h; cases h
  refine ⟨⟨m1 ++ m2, by rw [e2, e1, List.append_assoc], fun x hx => ?_⟩, fun x o hx hO h => ?_, fun x o h => let ⟨o1, e1⟩ := a.stay x o h; b.stay x o1 e1, fun x h => ?_⟩
  · rcases List.mem_append.mp hx with h | h
    · exact f1 x h
    · rcases f2 x h with z | z
      · exact .inl (back x z)
      · exact (a.own x z).symm
  · refine b.keep x o (fun z => ?_) (fun z => ?_) (a.keep x o hx hO h)
    · rw [e1] at z
      rcases List.mem_append.mp z with z | z
      · exact hx z
      · rcases f1 x z with y | y
        · rw [y] at h; cases h
        · exact hO y
    · rcases a.own x z with z | z
      · exact hO z
      · rw [z] at h; cases h
  · rcases b.own x h with h | h
    · exact a.own x h
    · exact .inr (back x h)
/-- plain data under a statement -/
theorem ExtO.mono (e : ExtO io H (Ow env sg) io' H' (Ow env' sg')) : Mono (Gs F env sg) io H (Gs F env' sg') io' H' := by
  obtain ⟨m, rfl, f⟩ := e.pre
  refine ⟨⟨m, rfl⟩, fun a o n h => ⟨e.keep a o (fun z => n (.inr z)) (fun z => n (.inl (.inr z))) h, ?_⟩⟩
  rintro ((z | z) | z)
  · exact n (.inl (.inl z))
  · rcases e.own a z with z | z
    · exact n (.inl (.inr z))
    · rw [z] at h; cases h
  · rcases List.mem_append.mp z with z | z
    · exact n (.inr z)
    · rcases f a z with y | y
      · rw [y] at h; cases h
      · exact n (.inl (.inr y))
theorem Ok.mono {G G' : Addr → Prop} (ok : Ok K G io st H) (sub : ∀ a, G' a → G a) : Ok K G' io st H := by
  have m : Mono G io H G' io H := ⟨⟨[], by simp⟩, fun a o n h => ⟨h, fun z => n (z.imp (sub a) id)⟩⟩
  refine ⟨ok.nd, fun a h z => ok.dj a h (sub a z), fun a h => ok.trk a (h.imp (sub a) id), ok.len, fun n ob a e1 e2 => ?_⟩
  have q := ok.obs n ob a e1 e2
  cases ob with
  | lst us => obtain ⟨vs, q1, q2⟩ := q; exact ⟨vs, q1, q2.mono m⟩
  | dct ks us => obtain ⟨kvs, q1, q2, q3⟩ := q; exact ⟨kvs, q1, q2, q3.mono m⟩
  | dcT ks us => obtain ⟨kvs, q1, q2, q3⟩ := q; exact ⟨kvs, q1, q2, q3.mono m⟩
  | obj c fs => obtain ⟨C, dx, vs, q1, q2, q3⟩ := q; exact ⟨C, dx, vs, q1, q2, q3.mono m⟩
  | ins _ _ => exact q
  | gone => trivial
theorem Fr.ext (f : Fr K F io st env sg H) (ok : Ok K (Gs F env sg) io' st' H') (e : Ext io H io' H') : Fr K F io' st' env sg H' := ⟨ok, f.er.ext f.ok.dj e, f.nF, f.dd⟩
theorem ow_set_val {i : Nat} {u : U} {o : Option V} {a : Addr} (h : Ow (env.set i (.val u)) (sg.set i o) a) : Ow env sg a := by
  obtain ⟨j, us, h1, h2⟩ := h
  by_cases hj : i = j
  · subst hj
    by_cases hl : i < env.length
    · rw [List.getElem?_set_self hl] at h1; cases h1
    · rw [List.getElem?_eq_none (by simpa using Nat.le_of_not_lt hl)] at h1; cases h1
  · rw [List.getElem?_set_ne hj] at h1 h2
    exact ⟨j, us, h1, h2⟩
theorem Fr.setVal (f : Fr K F io st env sg H) {i : Nat} {u : U} {v : V} (r : Rep K (Wf (Gs F env sg) io) io H u v) :
    Fr K F io st (env.set i (.val u)) (sg.set i (some v)) H ∧ ExtO io H (Ow env sg) io H (Ow (env.set i (.val u)) (sg.set i (some v))) := by
  have sub : ∀ a, Gs F (env.set i (.val u)) (sg.set i (some v)) a → Gs F env sg a := fun a h => h.imp id ow_set_val
  have ex : ExtO io H (Ow env sg) io H (Ow (env.set i (.val u)) (sg.set i (some v))) := ⟨⟨[], by simp, fun _ h => nomatch h⟩, fun _ _ _ _ h => h, fun _ o h => ⟨o, h⟩, fun a h => .inl (ow_set_val h)⟩
  have m := ex.mono (F := F)
  refine ⟨⟨f.ok.mono sub, ⟨by simp [f.er.len], fun j s o h1 h2 => ?_⟩, fun a h => f.nF a (ow_set_val h), fun j k a us us' h1 h2 h3 h4 => ?_⟩, ex⟩
  · by_cases hj : i = j
    · subst hj
      by_cases hl : i < env.length
      · rw [List.getElem?_set_self hl] at h1
        rw [List.getElem?_set_self (by rw [← f.er.len]; exact hl)] at h2
        cases h1; cases h2
        exact ⟨v, rfl, r.mono m⟩
      · rw [List.getElem?_eq_none (by simpa using Nat.le_of_not_lt hl)] at h1; cases h1
    · have g1 := h1; have g2 := h2
      rw [List.getElem?_set_ne hj] at h1 h2
      have q := f.er.sl j s o h1 h2
      cases s with
      | un => trivial
      | val u' => obtain ⟨v', q1, q2⟩ := q; exact ⟨v', q1, q2.mono m⟩
      | own us =>
        obtain ⟨a, vs, q1, q2, q3, q4⟩ := q
        subst q1
        exact ⟨a, vs, rfl, .inr ⟨j, us, g1, g2⟩, q3, q4.mono m⟩
  · have nj : ∀ (k : Nat) (us : List U), (env.set i (.val u))[k]? = some (.own us) → i ≠ k := fun k us h e => by
      subst e
      by_cases hl : i < env.length
      · rw [List.getElem?_set_self hl] at h; cases h
      · rw [List.getElem?_eq_none (by simpa using Nat.le_of_not_lt hl)] at h; cases h
    have n1 := nj j us h1
    have n2 := nj k us' h2
    rw [List.getElem?_set_ne n1] at h1 h3
    rw [List.getElem?_set_ne n2] at h2 h4
    exact f.dd j k a us us' h1 h2 h3 h4
/-- a slot gets a list of its own, at a place that nothing else knows -/
theorem Fr.setOwn (f : Fr K F io st env sg H) {i : Nat} {us : List U} {vs : List V} {a : Addr} (na : H a = none) (r : Reps K (Wf (Gs F env sg) io) io H us vs) (hi : i < env.length) :
    Fr K F io st (env.set i (.own us)) (sg.set i (some (.ref a))) (upd H a (.lst vs)) ∧ ExtO io H (Ow env sg) io (upd H a (.lst vs)) (Ow (env.set i (.own us)) (sg.set i (some (.ref a)))) := by
  have hi' : i < sg.length := by rw [← f.er.len]; exact hi
  have ow : ∀ b, Ow (env.set i (.own us)) (sg.set i (some (.ref a))) b → b = a ∨ Ow env sg b := fun b h => by
    obtain ⟨j, us', h1, h2⟩ := h
    by_cases hj : i = j
    · subst hj
      rw [List.getElem?_set_self hi'] at h2
      cases h2; exact .inl rfl
    · rw [List.getElem?_set_ne hj] at h1 h2
      exact .inr ⟨j, us', h1, h2⟩
  have owa : Ow (env.set i (.own us)) (sg.set i (some (.ref a))) a := ⟨i, us, List.getElem?_set_self hi, List.getElem?_set_self hi'⟩
  have nW : ¬ Wf (Gs F env sg) io a := f.ok.fresh na
  have ne : ∀ b o, H b = some o → b ≠ a := fun b o h => ne_of_none h na
  have s : Same H (upd H a (.lst vs)) := same_upd na
  have ex : ExtO io H (Ow env sg) io (upd H a (.lst vs)) (Ow (env.set i (.own us)) (sg.set i (some (.ref a)))) := ⟨⟨[], by simp, fun _ h => nomatch h⟩, fun b o _ _ h => s b o h, fun b o h => ⟨o, s b o h⟩, fun b h => (ow b h).elim (fun e => .inr (e ▸ na)) .inl⟩
  have m := ex.mono (F := F)
  refine ⟨⟨⟨f.ok.nd, fun b hb z => ?_, fun b h => ?_, f.ok.len, fun n ob b e1 e2 => ?_⟩, ⟨by simp [f.er.len], fun j sl o h1 h2 => ?_⟩, fun b h z => ?_, fun j k b us1 us2 h1 h2 h3 h4 => ?_⟩, ex⟩
  · rcases z with z | z
    · exact f.ok.dj b hb (.inl z)
    · rcases ow b z with e | z
      · subst e; exact nW (.inr hb)
      · exact f.ok.dj b hb (.inr z)
  · rcases h with (z | z) | z
    · obtain ⟨o, e, x⟩ := f.ok.trk b (.inl (.inl z)); exact ⟨o, s b o e, x⟩
    · rcases ow b z with e | z
      · subst e; exact ⟨_, upd_same, nx_lst⟩
      · obtain ⟨o, e, x⟩ := f.ok.trk b (.inl (.inr z)); exact ⟨o, s b o e, x⟩
    · obtain ⟨o, e, x⟩ := f.ok.trk b (.inr z); exact ⟨o, s b o e, x⟩
  · have q := f.ok.obs n ob b e1 e2
    cases ob with
    | lst us' => obtain ⟨vs', q1, q2⟩ := q; exact ⟨vs', s _ _ q1, q2.mono m⟩
    | dct ks us => obtain ⟨kvs, q1, q2, q3⟩ := q; exact ⟨kvs, s _ _ q1, q2, q3.mono m⟩
    | dcT ks us => obtain ⟨kvs, q1, q2, q3⟩ := q; exact ⟨kvs, s _ _ q1, q2, q3.mono m⟩
    | obj c fs => obtain ⟨C, dx, vs, q1, q2, q3⟩ := q; exact ⟨C, dx, vs, q1, s _ _ q2, q3.mono m⟩
    | ins c fs => obtain ⟨C, d, q1, q2, q3⟩ := q; exact ⟨C, d, q1, s _ _ q2, q3.keep fun dd ws z => s _ _ z⟩
    | gone => trivial
  · by_cases hj : i = j
    · subst hj
      rw [List.getElem?_set_self hi] at h1
      rw [List.getElem?_set_self hi'] at h2
      cases h1; cases h2
      exact ⟨a, vs, rfl, .inr owa, upd_same, r.mono m⟩
    · have g1 := h1; have g2 := h2
      rw [List.getElem?_set_ne hj] at h1 h2
      have q := f.er.sl j sl o h1 h2
      cases sl with
      | un => trivial
      | val u' => obtain ⟨v', q1, q2⟩ := q; exact ⟨v', q1, q2.mono m⟩
      | own us' =>
        obtain ⟨b, vs', q1, q2, q3, q4⟩ := q
        subst q1
        exact ⟨b, vs', rfl, .inr ⟨j, us', g1, g2⟩, s _ _ q3, q4.mono m⟩
  · rcases ow b h with e | h
    · subst e; exact nW (.inl (.inl z))
    · exact f.nF b h z
  · have one : ∀ (j : Nat) (us1 : List U), (env.set i (.own us))[j]? = some (.own us1) → (sg.set i (some (.ref a)))[j]? = some (some (.ref b)) → (i = j ∧ b = a) ∨ (i ≠ j ∧ env[j]? = some (.own us1) ∧ sg[j]? = some (some (.ref b))) := fun j us1 h1 h3 => by
      by_cases hj : i = j
      · subst hj
        rw [List.getElem?_set_self hi'] at h3
        cases h3; exact .inl ⟨rfl, rfl⟩
      · rw [List.getElem?_set_ne hj] at h1 h3
        exact .inr ⟨hj, h1, h3⟩
    rcases one j us1 h1 h3 with ⟨e1, e2⟩ | ⟨_, p1, p2⟩
    · rcases one k us2 h2 h4 with ⟨e3, _⟩ | ⟨_, p1, p2⟩
      · exact e1.symm.trans e3
      · subst e2
        exact (nW (.inl (.inr ⟨k, us2, p1, p2⟩))).elim
    · rcases one k us2 h2 h4 with ⟨_, e2⟩ | ⟨_, p3, p4⟩
      · subst e2
        exact (nW (.inl (.inr ⟨j, us1, p1, p2⟩))).elim
      · exact f.dd j k b us1 us2 p1 p3 p2 p4
/-- a list of the frame's own turns -/
theorem Fr.turnOwn (f : Fr K F io st env sg H) {i : Nat} {us us' : List U} {vs' : List V} {a : Addr} (h1 : env[i]? = some (.own us)) (h2 : sg[i]? = some (some (.ref a))) (r : Reps K (Wf (Gs F env sg) io) io H us' vs') :
    Fr K F io st (env.set i (.own us')) sg (upd H a (.lst vs')) ∧ ExtO io H (Ow env sg) io (upd H a (.lst vs')) (Ow (env.set i (.own us')) sg) := by
  have hi : i < env.length := (List.getElem?_eq_some_iff.mp h1).1
  have oa : Ow env sg a := ⟨i, us, h1, h2⟩
  have ow : ∀ b, Ow (env.set i (.own us')) sg b ↔ Ow env sg b := fun b => by
    constructor
    · rintro ⟨j, w, h3, h4⟩
      by_cases hj : i = j
      · subst hj; exact ⟨i, us, h1, h4⟩
      · rw [List.getElem?_set_ne hj] at h3
        exact ⟨j, w, h3, h4⟩
    · rintro ⟨j, w, h3, h4⟩
      by_cases hj : i = j
      · subst hj; exact ⟨i, us', List.getElem?_set_self hi, h4⟩
      · exact ⟨j, w, by rw [List.getElem?_set_ne hj]; exact h3, h4⟩
  have keep : ∀ b o, b ≠ a → H b = some o → (upd H a (.lst vs')) b = some o := fun b o n h => by rw [upd_ne n]; exact h
  have ex : ExtO io H (Ow env sg) io (upd H a (.lst vs')) (Ow (env.set i (.own us')) sg) := ⟨⟨[], by simp, fun _ h => nomatch h⟩, fun b o _ n h => keep b o (fun e => n (e ▸ oa)) h, fun b o h => by
    by_cases e : b = a
    · subst e; exact ⟨_, upd_same⟩
    · exact ⟨o, keep b o e h⟩, fun b h => .inl ((ow b).mp h)⟩
  have m := ex.mono (F := F)
  have nio : a ∉ io := fun z => f.ok.dj a z (.inr oa)
  have nxa : ∀ (dd : Addr) (ws : List (Str × V)), H dd = some (.xd ws) → dd ≠ a := fun dd ws z e => by
    subst e
    obtain ⟨o, e1, x⟩ := f.ok.trk dd (.inl (.inr oa))
    rw [z] at e1; cases e1; exact x ws rfl
  refine ⟨⟨⟨f.ok.nd, fun b hb z => f.ok.dj b hb (z.imp id (ow b).mp), fun b h => ?_, f.ok.len, fun n ob b e1 e2 => ?_⟩, ⟨by simp [f.er.len], fun j sl o g1 g2 => ?_⟩, fun b h z => f.nF b ((ow b).mp h) z, fun j k b us1 us2 g1 g2 g3 g4 => ?_⟩, ex⟩
  · obtain ⟨o, e, x⟩ := f.ok.trk b (h.imp (fun z => z.imp id (ow b).mp) id)
    by_cases hb : b = a
    · subst hb; exact ⟨_, upd_same, nx_lst⟩
    · exact ⟨o, keep b o hb e, x⟩
  · have q := f.ok.obs n ob b e1 e2
    have nb : b ≠ a := fun e => nio (e ▸ List.mem_of_getElem? e2)
    cases ob with
    | lst us' => obtain ⟨vs', q1, q2⟩ := q; exact ⟨vs', keep _ _ nb q1, q2.mono m⟩
    | dct ks us => obtain ⟨kvs, q1, q2, q3⟩ := q; exact ⟨kvs, keep _ _ nb q1, q2, q3.mono m⟩
    | dcT ks us => obtain ⟨kvs, q1, q2, q3⟩ := q; exact ⟨kvs, keep _ _ nb q1, q2, q3.mono m⟩
    | obj c fs => obtain ⟨C, dx, vs, q1, q2, q3⟩ := q; exact ⟨C, dx, vs, q1, keep _ _ nb q2, q3.mono m⟩
    | ins c fs => obtain ⟨C, d, q1, q2, q3⟩ := q; exact ⟨C, d, q1, keep _ _ nb q2, q3.keep fun dd ws z => keep _ _ (nxa dd ws z) z⟩
    | gone => trivial
  · by_cases hj : i = j
    · subst hj
      rw [List.getElem?_set_self hi] at g1
      rw [h2] at g2
      cases g1; cases g2
      exact ⟨a, vs', rfl, .inr ((ow a).mpr oa), upd_same, r.mono m⟩
    · have g1' := g1
      rw [List.getElem?_set_ne hj] at g1
      have q := f.er.sl j sl o g1 g2
      cases sl with
      | un => trivial
      | val u' => obtain ⟨v', q1, q2⟩ := q; exact ⟨v', q1, q2.mono m⟩
      | own w =>
        obtain ⟨b, vs1, q1, q2, q3, q4⟩ := q
        subst q1
        have nb : b ≠ a := fun e => hj (f.dd i j a us w h1 g1 h2 (e ▸ g2))
        exact ⟨b, vs1, rfl, .inr ⟨j, w, g1', g2⟩, keep _ _ nb q3, q4.mono m⟩
  · have back : ∀ (j : Nat) (w : List U), (env.set i (.own us'))[j]? = some (.own w) → ∃ w', env[j]? = some (.own w') := fun j w h => by
      by_cases hj : i = j
      · subst hj; exact ⟨us, h1⟩
      · rw [List.getElem?_set_ne hj] at h; exact ⟨w, h⟩
    obtain ⟨w1, e1⟩ := back j us1 g1
    obtain ⟨w2, e2⟩ := back k us2 g2
    exact f.dd j k b w1 w2 e1 e2 g3 g4
end
/-- what is wanted behind a statement -/
def WantsS (K : PySem.W.Frag) (F : Addr → Prop) (io : List Addr) (H : Hp) (O : Addr → Prop) (D : Ends) (xs : XS) (wx : WX) : Out → Prop
  | .nx env' st' => ∀ io' sg' H', Fr K F io' st' env' sg' H' → ExtO io H O io' H' (Ow env' sg') → D.nx sg' H'
  | .bk env' st' => ∀ io' sg' H', Fr K F io' st' env' sg' H' → ExtO io H O io' H' (Ow env' sg') → D.bk sg' H'
  | .ct env' st' => ∀ io' sg' H', Fr K F io' st' env' sg' H' → ExtO io H O io' H' (Ow env' sg') → D.ct sg' H'
  | .rt u st' => ∀ io' H' v, Ok K F io' st' H' → ExtO io H O io' H' (fun _ => False) → Rep K (Wf F io') io' H' u v → D.rt v H'
  | .ex c us env' st' => ∀ io' sg' H', Fr K F io' st' env' sg' H' → ExtO io H O io' H' (Ow env' sg') → ∀ cls d, xs c us cls d H' → wx cls d sg' H'
  | .bad => False
def tDS (K : PySem.W.Frag) (xs : XS) (wx : WX) (f : DS) : TS := fun D sg H => ∃ F io st env, Fr K F io st env sg H ∧ WantsS K F io H (Ow env sg) D xs wx (f env st)
section
variable {K : PySem.W.Frag} {F : Addr → Prop} {io io1 : List Addr} {st : Store} {env env1 : Env} {sg : L2.St} {H H1 : Hp} {O O1 : Addr → Prop} {D : Ends} {xs : XS} {wx : WX}
theorem WantsS.later {o : Out} (h : WantsS K F io H O D xs wx o) (e : ExtO io H O io1 H1 O1) : WantsS K F io1 H1 O1 D xs wx o := by
  cases o with
  | nx env' st' => exact fun io' sg' H' f e' => h io' sg' H' f (e.trans e')
  | bk env' st' => exact fun io' sg' H' f e' => h io' sg' H' f (e.trans e')
  | ct env' st' => exact fun io' sg' H' f e' => h io' sg' H' f (e.trans e')
  | rt u st' => exact fun io' H' v f e' => h io' H' v f (e.trans e')
  | ex c us env' st' => exact fun io' sg' H' f e' => h io' sg' H' f (e.trans e')
  | bad => exact h
/-- an expression within a statement -/
theorem WantsS.expr {A : Type} {r : Rs A} {k : A → Store → Out} (f : Fr K F io st env sg H) (h : WantsS K F io H (Ow env sg) D xs wx (r.out env k)) :
    Wants K (Gs F env sg) io H (fun st1 io1 H1 a => Fr K F io1 st1 env sg H1 ∧ WantsS K F io1 H1 (Ow env sg) D xs wx (k a st1)) (XW xs wx sg) r := by
  cases r with
  | ok a st1 => exact fun io' H' ok e => ⟨f.ext ok e, WantsS.later h (e.o _)⟩
  | ex c us st1 => exact fun io' H' ok e => h io' sg H' (f.ext ok e) (e.o _)
  | bad => exact h
end
section
variable {X : Cx} {xs : XS} {wx : WX} {pos : Pos}
def sNil : DS := fun env st => .nx env st
def sSeq (f g : DS) : DS := fun env st => (f env st).seq g
theorem ss_nil : PSs X [] (tDS X.K xs wx sNil) := pss_imp pss_nil fun D sg H h => by
  obtain ⟨F, io, st, env, f, w⟩ := h
  exact w io sg H f (ExtO.refl _ _ _)
theorem ss_cons {s : Stmt} {rest : List Stmt} {f g : DS} (h1 : PS X s (tDS X.K xs wx f)) (h2 : PSs X rest (tDS X.K xs wx g)) : PSs X (s :: rest) (tDS X.K xs wx (sSeq f g)) := pss_imp (pss_cons h1 h2) fun D sg H h => by
  obtain ⟨F, io, st, env, fr, w⟩ := h
  refine ⟨F, io, st, env, fr, ?_⟩
  unfold sSeq at w
  cases q : f env st with
  | nx env' st' =>
    rw [q] at w
    exact fun io' sg' H' fr' e' => ⟨F, io', st', env', fr', WantsS.later w e'⟩
  | _ => rw [q] at w; exact w
def sExpr (f : DE) : DS := fun env st => (f env st).out env fun _ st1 => .nx env st1
theorem s_expr {e : Expr} {f : DE} (he : PE X e (tD X.K xs wx f)) (hs : swapsWith e none pos.line X.env = Pure.pure false := by rfl) : PS X (.Expr e pos) (tDS X.K xs wx (sExpr f)) := ps_imp (ps_expr he hs) fun D sg H h => by
  obtain ⟨F, io, st, env, fr, w⟩ := h
  refine ⟨Gs F env sg, io, st, env, fr.ok, fr.er, (WantsS.expr fr w).impR fun st1 io1 H1 a ok1 e1 q v rv => ?_⟩
  exact q.2 io1 sg H1 q.1 (ExtO.refl _ _ _)
def sRet (f : DE) : DS := fun env st => (f env st).out env fun u st1 => .rt u st1
theorem s_ret {e : Expr} {f : DE} (he : PE X e (tD X.K xs wx f)) : PS X (.Return (some e) pos) (tDS X.K xs wx (sRet f)) := ps_imp (ps_ret he) fun D sg H h => by
  obtain ⟨F, io, st, env, fr, w⟩ := h
  refine ⟨Gs F env sg, io, st, env, fr.ok, fr.er, (WantsS.expr fr w).impR fun st1 io1 H1 a ok1 e1 q v rv => ?_⟩
  have m : Mono (Gs F env sg) io1 H1 F io1 H1 := ⟨⟨[], by simp⟩, fun a o n h => ⟨h, fun z => n (z.imp .inl id)⟩⟩
  exact q.2 io1 H1 v (q.1.ok.mono fun _ => .inl) ⟨⟨[], by simp, fun _ h => nomatch h⟩, fun _ _ _ _ h => h, fun _ o h => ⟨o, h⟩, fun _ h => h.elim⟩ (rv.mono m)
def sRetN : DS := fun env st => .rt .non st
theorem s_retN : PS X (.Return none pos) (tDS X.K xs wx sRetN) := ps_imp ps_retN fun D sg H h => by
  obtain ⟨F, io, st, env, fr, w⟩ := h
  exact w io H .non (fr.ok.mono fun _ => .inl) ⟨⟨[], by simp, fun _ h => nomatch h⟩, fun _ _ _ _ h => h, fun _ o h => ⟨o, h⟩, fun _ h => h.elim⟩ (by unfold Rep; rfl)
def sIf (c : DT) (f g : DS) : DS := fun env st => (c env st).out env fun b st1 => if b = true then f env st1 else g env st1
theorem s_if {c : Expr} {a b : List Stmt} {t : DT} {f g : DS} (hc : PT X c (tDT X.K xs wx t)) (ha : PSs X a (tDS X.K xs wx f)) (hb : PSs X b (tDS X.K xs wx g)) : PS X (.If c a b pos) (tDS X.K xs wx (sIf t f g)) := ps_imp (ps_if hc ha hb) fun D sg H h => by
  obtain ⟨F, io, st, env, fr, w⟩ := h
  refine ⟨Gs F env sg, io, st, env, fr.ok, fr.er, (WantsS.expr fr w).impR fun st1 io1 H1 b ok1 e1 q => ?_⟩
  cases b with
  | true => exact ⟨F, io1, st1, env, q.1, q.2⟩
  | false => exact ⟨F, io1, st1, env, q.1, q.2⟩
def sSet (i : Nat) (f : DE) : DS := fun env st => (f env st).out env fun u st1 => .nx (env.set i (.val u)) st1
theorem s_set {i : Nat} {x : Str} {e : Expr} {f : DE} {pos' : Pos} (hN : X.N.Nodup) (hi : X.N[i]? = some x) (hx : Loc X.env.scope x) (he : PE X e (tD X.K xs wx f)) (hs : swapsWith e (some (.Name x pos')) pos.line X.env = Pure.pure false := by rfl)
    (hf : X.fn x = true ∨ X.env.scope.names.lookup x = some .local := by first | exact .inl rfl | exact .inr rfl | assumption) : PS X (.Assign [.Name x pos'] e pos) (tDS X.K xs wx (sSet i f)) := ps_imp (ps_set hN hi hx he hs hf) fun D sg H h => by
  obtain ⟨F, io, st, env, fr, w⟩ := h
  refine ⟨Gs F env sg, io, st, env, fr.ok, fr.er, (WantsS.expr fr w).impR fun st1 io1 H1 u ok1 e1 q v rv => ?_⟩
  have z := q.1.setVal (i := i) rv
  exact q.2 io1 _ H1 z.1 z.2
/-- a new list -/
abbrev DL := Env → Store → Rs (List U)
def tDL (K : PySem.W.Frag) (xs : XS) (wx : WX) (f : DL) : TE := fun sg H Q => ∃ G io st env, Ok K G io st H ∧ EnvRep K G io H env sg ∧
  Wants K G io H (fun _ io' H' us => ∀ vs a, Reps K (Wf G io') io' H' us vs → H' a = none → Q (.ref a) (upd H' a (.lst vs))) (XW xs wx sg) (f env st)
def newL (f : DL) : DE := fun env st => (f env st).bind fun us st1 => .ok (.lst us) st1
theorem d_new {e : Expr} {f : DL} (h : PE X e (tDL X.K xs wx f)) : PE X e (tD X.K xs wx (newL f)) := pe_imp h fun sg H Q q => by
  obtain ⟨G, io, st, env, ok, er, w⟩ := q
  refine ⟨G, io, st, env, ok, er, w.bind.impR fun st1 io1 H1 us ok1 e1 w1 vs a rvs na => ?_⟩
  exact w1.hereS ok1 (same_upd na) _ (ok1.newL na rvs)
def szDL (f : DA) : DL := fun env st => (f env st).bind fun us st1 => if us.length ≤ sizeLine then .ok us st1 else .bad
theorem l_lst {es : List Expr} {f : DA} (h : PA X es (tDA X.K xs wx f)) : PE X (.List es pos) (tDL X.K xs wx (szDL f)) := pe_imp (pe_lst h) fun sg H Q q => by
  obtain ⟨G, io, st, env, ok, er, w⟩ := q
  refine ⟨G, io, st, env, ok, er, w.bind.impR fun st1 io1 H1 us ok1 e1 w1 vs rvs => ?_⟩
  split at w1
  · rename_i hz
    exact ⟨by rw [← rvs.length]; exact hz, fun p hp => w1.here ok1 vs p rvs hp⟩
  · exact w1.elim
def sOwn (i : Nat) (f : DL) : DS := fun env st => (f env st).out env fun us st1 => if i < env.length then .nx (env.set i (.own us)) st1 else .bad
theorem s_own {i : Nat} {x : Str} {e : Expr} {f : DL} {pos' : Pos} (hN : X.N.Nodup) (hi : X.N[i]? = some x) (hx : Loc X.env.scope x) (he : PE X e (tDL X.K xs wx f)) (hs : swapsWith e (some (.Name x pos')) pos.line X.env = Pure.pure false := by rfl)
    (hf : X.fn x = true ∨ X.env.scope.names.lookup x = some .local := by first | exact .inl rfl | exact .inr rfl | assumption) : PS X (.Assign [.Name x pos'] e pos) (tDS X.K xs wx (sOwn i f)) := ps_imp (ps_set hN hi hx he hs hf) fun D sg H h => by
  obtain ⟨F, io, st, env, fr, w⟩ := h
  refine ⟨Gs F env sg, io, st, env, fr.ok, fr.er, (WantsS.expr fr w).impR fun st1 io1 H1 us ok1 e1 q vs a rvs na => ?_⟩
  have q2 := q.2
  split at q2
  · rename_i hl
    have z := q.1.setOwn (i := i) na rvs hl
    exact q2 io1 _ _ z.1 z.2
  · exact q2.elim
def sApp (i : Nat) (f : DE) : DS := fun env st => match env[i]? with
  | some (.own us) => (f env st).out env fun u st1 => if us.length < sizeLine then .nx (env.set i (.own (us ++ [u]))) st1 else .bad
  | _ => .bad
theorem Fr.slot {K : PySem.W.Frag} {F : Addr → Prop} {io : List Addr} {st : Store} {env : Env} {sg : L2.St} {H : Hp} (f : Fr K F io st env sg H) {i : Nat} {us : List U} (h : env[i]? = some (.own us)) : ∃ a vs, sg[i]? = some (some (.ref a)) ∧ H a = some (.lst vs) ∧ Reps K (Wf (Gs F env sg) io) io H us vs := by
  have hi : i < sg.length := by rw [← f.er.len]; exact (List.getElem?_eq_some_iff.mp h).1
  obtain ⟨a, vs, q1, _, q3, q4⟩ := f.er.sl i _ _ h (List.getElem?_eq_getElem hi)
  exact ⟨a, vs, (List.getElem?_eq_getElem hi).trans (congrArg some q1), q3, q4⟩
theorem s_app {i : Nat} {x : Str} {e : Expr} {f : DE} {p1 p2 : Pos} (hN : X.N[i]? = some x) (hv : Vis X.env.scope x) (he : PE X e (tD X.K xs wx f)) (hd : (x == ("__debug__" : Str)) = false := by decide) (hcd : (x == ("__classdict__" : Str)) = false := by decide)
    (hfew : ((backTo pos (starEach [e] X.env)).all (fun x => !x.1) && (backToKw pos (keywordEach [] X.env)).all (fun x => x.1.isSome) && decide ([e].length + ([] : List Keyword).length + (if ([] : List Keyword).isEmpty then 0 else 1) < 30)) = true := by rfl)
    (hline : (p1.endLine == pos.line) = true := by rfl) (hs : starEach (e :: []) X.env = (false, eval e X.env) :: starEach [] X.env := by rfl) (hplain : (backTo pos (starEach [] X.env)).any (·.1) = false := by rfl)
    (hsw : swapsWith (.Call (.Attribute (.Name x p2) "append" p1) [e] [] pos) none pos.line X.env = Pure.pure false := by rfl) {pos2 : Pos} :
    PS X (.Expr (.Call (.Attribute (.Name x p2) "append" p1) [e] [] pos) pos2) (tDS X.K xs wx (sApp i f)) := by
  refine ps_imp (ps_expr (pe_bm PySem.F.plainAttrs_list PySem.F.slot_list_append PySem.F.type_list_append mt_append (pe_var (i := i) hN hv hd hcd) (pa_cons he pa_nil hs) (by rfl) hfew hline hs hplain) hsw) fun D sg H h => ?_
  obtain ⟨F, io, st, env, fr, w⟩ := h
  unfold sApp at w
  split at w
  · rename_i us q
    obtain ⟨a, vs, e1, e2, r⟩ := fr.slot q
    refine ⟨.ref a, e1, .inl ⟨rfl, vs, .inl (.inl e2)⟩, ?_⟩
    refine ⟨Gs F env sg, io, st, env, fr.ok, fr.er, (WantsS.expr fr w).impR fun st1 io1 H1 u ok1 ex1 z v rv => ?_⟩
    have z2 := z.2
    obtain ⟨a', vs', e1', e2', r'⟩ := z.1.slot q
    rw [e1] at e1'; cases e1'
    split at z2
    · rename_i hl
      refine ⟨a, vs', v, rfl, rfl, e2', by rw [← r'.length]; exact hl, ?_⟩
      have y := z.1.turnOwn q e1 (r'.append (.cons rv .nil))
      exact z2 io1 _ _ y.1 y.2
    · exact z2.elim
  · exact w.elim
end
end D
namespace D
open PySem L2
/-! ### targets -/
abbrev Tg := U → Option (List (Nat × U))
def setE (env : Env) (l : List (Nat × U)) : Env := l.foldl (fun e p => e.set p.1 (.val p.2)) env
def setS (sg : L2.St) (l : List (Nat × V)) : L2.St := l.foldl (fun e p => e.set p.1 (some p.2)) sg
def gD (K : PySem.W.Frag) (t : Tg) : TG := fun v sg H Q => ∃ G io u l, Rep K (Wf G io) io H u v ∧ t u = some l ∧ ∀ vs, Reps K (Wf G io) io H (l.map (·.2)) vs → Q (setS sg ((l.map (·.1)).zip vs)) H
theorem pg_imp {X : Cx} {e : Expr} {t t' : TG} (h : PG X e t) (f : ∀ v sg H Q, t' v sg H Q → t v sg H Q) : PG X e t' := ⟨fun pins s sg H v u Q I r q => h.run pins s sg H v u Q I r (f v sg H Q q)⟩
def tgN (i : Nat) : Tg := fun u => some [(i, u)]
def tgT (is : List Nat) : Tg := fun u => match u with
  | .tup us => if us.length = is.length then some (is.zip us) else none
  | _ => none
section
variable {X : Cx} {xs : XS} {wx : WX} {pos : Pos}
theorem g_name {i : Nat} {x : Str} (hN : X.N.Nodup) (hi : X.N[i]? = some x) (hx : Loc X.env.scope x) (hf : X.fn x = true ∨ X.env.scope.names.lookup x = some .local := by first | exact .inl rfl | exact .inr rfl | assumption) : PG X (.Name x pos) (gD X.K (tgN i)) :=
  pg_imp (pg_name hN hi hx hf) fun v sg H Q h => by
    obtain ⟨G, io, u, l, r, e, q⟩ := h
    cases e
    exact q [v] (.cons r .nil)
/-- several names -/
inductive GNames (X : Cx) : List Expr → List Nat → Prop
  | nil : GNames X [] []
  | cons {x : Str} {p : Pos} {i : Nat} {es : List Expr} {is : List Nat} (hi : X.N[i]? = some x) (hx : Loc X.env.scope x) (hf : X.fn x = true ∨ X.env.scope.names.lookup x = some .local) (t : GNames X es is) : GNames X (.Name x p :: es) (i :: is)
def gSet : List Nat → TGs
  | [] => gNil
  | i :: is => gCons (gName i) (gSet is)
theorem GNames.pgs (hN : X.N.Nodup) : ∀ {es : List Expr} {is : List Nat}, GNames X es is → PGs X es (gSet is) ∧ (assignEach es X.env).length = is.length ∧ (assignEach es X.env).findIdx? (·.1) = none
  | _, _, .nil => ⟨pgs_nil, rfl, rfl⟩
  | _, _, .cons hi hx hf t => by
    obtain ⟨h1, h2, h3⟩ := GNames.pgs hN t
    refine ⟨pgs_cons (pg_name hN hi hx hf) h1 rfl, ?_, ?_⟩
    · show (_ :: assignEach _ X.env).length = _
      simp [h2]
    · show List.findIdx? _ ((false, _) :: assignEach _ X.env) = none
      rw [List.findIdx?_cons]
      simp [h3]
theorem gSet_of {Q : L2.St → Hp → Prop} {H : Hp} : ∀ (is : List Nat) (vs : List V) (sg : L2.St), vs.length = is.length → Q (setS sg (is.zip vs)) H → gSet is vs sg H Q
  | [], vs, sg, hl, h => ⟨List.eq_nil_of_length_eq_zero (by simpa using hl), h⟩
  | i :: is, [], sg, hl, h => by simp at hl
  | i :: is, v :: vs, sg, hl, h => ⟨v, vs, rfl, gSet_of is vs (sg.set i (some v)) (by simpa using hl) h⟩
theorem zip_fst {α β : Type} : ∀ (a : List α) (b : List β), b.length = a.length → (a.zip b).map (·.1) = a
  | [], _, _ => by simp
  | x :: a, [], h => by simp at h
  | x :: a, y :: b, h => by simp [zip_fst a b (by simpa using h)]
theorem zip_snd {α β : Type} : ∀ (a : List α) (b : List β), b.length = a.length → (a.zip b).map (·.2) = b
  | [], b, h => by simp at h; simp [h]
  | x :: a, [], h => by simp at h
  | x :: a, y :: b, h => by simp [zip_snd a b (by simpa using h)]
theorem g_tup {es : List Expr} {k : Nat} {is : List Nat} (hc : X.calm = true) (hN : X.N.Nodup) (h : GNames X es is) : PG X (.Tuple es k pos) (gD X.K (tgT is)) := by
  obtain ⟨h1, h2, h3⟩ := GNames.pgs hN h
  refine pg_imp (pg_tup hc h1 h2 h3) fun v sg H Q q => ?_
  obtain ⟨G, io, u, l, r, e, q⟩ := q
  cases u with
  | tup us =>
    unfold tgT at e
    simp only at e
    split at e
    · rename_i hl
      cases e
      unfold Rep at r
      obtain ⟨a, vs, rfl, lt, rs⟩ := r
      have hv : vs.length = is.length := by rw [← rs.length]; exact hl
      rw [zip_fst _ _ hl, zip_snd _ _ hl] at q
      exact ⟨a, vs, rfl, lt.sq, hv, gSet_of is vs sg hv (q vs rs)⟩
    · cases e
  | _ => cases e
end
section
variable {K : PySem.W.Frag} {F G : Addr → Prop} {io : List Addr} {st : Store} {env : Env} {sg : L2.St} {H : Hp}
theorem EnvRep.setVal (e : EnvRep K G io H env sg) {i : Nat} {u : U} {v : V} (r : Rep K (Wf G io) io H u v) : EnvRep K G io H (env.set i (.val u)) (sg.set i (some v)) := ⟨by simp [e.len], fun j s o h1 h2 => by
  by_cases hj : i = j
  · subst hj
    by_cases hl : i < env.length
    · rw [List.getElem?_set_self hl] at h1
      rw [List.getElem?_set_self (by rw [← e.len]; exact hl)] at h2
      cases h1; cases h2
      exact ⟨v, rfl, r⟩
    · rw [List.getElem?_eq_none (by simpa using Nat.le_of_not_lt hl)] at h1; cases h1
  · rw [List.getElem?_set_ne hj] at h1 h2
    exact e.sl j s o h1 h2⟩
theorem EnvRep.setAll : ∀ (l : List (Nat × U)) (vs : List V) {env : Env} {sg : L2.St}, EnvRep K G io H env sg → Reps K (Wf G io) io H (l.map (·.2)) vs → EnvRep K G io H (setE env l) (setS sg ((l.map (·.1)).zip vs))
  | [], vs, _, _, e, r => by simpa [setE, setS] using e
  | p :: l, vs, _, _, e, r => by
    obtain ⟨v, vr, rfl, r1, r2⟩ := r.uncons
    exact EnvRep.setAll l vr (e.setVal r1) r2
theorem EnvRep.wipe1 (e : EnvRep K G io H env sg) (i : Nat) : EnvRep K G io H (env.set i .un) (sg.set i none) := ⟨by simp [e.len], fun j s o h1 h2 => by
  by_cases hj : i = j
  · subst hj
    by_cases hl : i < env.length
    · rw [List.getElem?_set_self hl] at h1
      cases h1
      trivial
    · rw [List.getElem?_eq_none (by simpa using Nat.le_of_not_lt hl)] at h1; cases h1
  · rw [List.getElem?_set_ne hj] at h1 h2
    exact e.sl j s o h1 h2⟩
def wipeE (env : Env) : List Nat → Env
  | [] => env
  | v :: vs => (wipeE env vs).set v .un
theorem EnvRep.wipe (e : EnvRep K G io H env sg) : ∀ vs : List Nat, EnvRep K G io H (wipeE env vs) (L2.wipe sg vs)
  | [] => e
  | v :: vs => (EnvRep.wipe e vs).wipe1 v
theorem Fr.setAll : ∀ (l : List (Nat × U)) (vs : List V) {env : Env} {sg : L2.St}, Fr K F io st env sg H → Reps K (Wf (Gs F env sg) io) io H (l.map (·.2)) vs →
    Fr K F io st (setE env l) (setS sg ((l.map (·.1)).zip vs)) H ∧ ExtO io H (Ow env sg) io H (Ow (setE env l) (setS sg ((l.map (·.1)).zip vs)))
  | [], vs, _, _, f, r => by simpa [setE, setS] using ⟨f, ExtO.refl _ _ _⟩
  | p :: l, vs, _, _, f, r => by
    obtain ⟨v, vr, rfl, r1, r2⟩ := r.uncons
    obtain ⟨f1, e1⟩ := f.setVal (i := p.1) r1
    obtain ⟨f2, e2⟩ := Fr.setAll l vr f1 (r2.mono (e1.mono (F := F)))
    exact ⟨f2, e1.trans e2⟩
end
/-! ### what is walked -/
structure Wk (K : PySem.W.Frag) (G : Addr → Prop) (J : It) (io : List Addr) (H : Hp) (us : List U) : Prop where
  go : ∀ (i : Nat) G' io' st' H', Ok K G' io' st' H' → Mono G io H G' io' H' → i < us.length → J.go i H' ∧ ∀ x H'', J.yld i H' x H'' → Same H' H'' ∧ ∃ u, us[i]? = some u ∧ Rep K (Wf G' io') io' H'' u x
  stop : ∀ (i : Nat) G' io' st' H', Ok K G' io' st' H' → Mono G io H G' io' H' → us.length ≤ i → J.stop i H'
def tI (K : PySem.W.Frag) (xs : XS) (wx : WX) (f : DL) : TI := fun sg H R => ∃ G io st env, Ok K G io st H ∧ EnvRep K G io H env sg ∧
  Wants K G io H (fun _ io' H' us => ∀ J, Wk K G J io' H' us → R J H') (XW xs wx sg) (f env st)
theorem pi_imp {X : Cx} {tg e : Expr} {t t' : TI} (h : PI X tg e t) (f : ∀ sg H R, t' sg H R → t sg H R) : PI X tg e t' := ⟨fun pins s sg H R I q => h.run pins s sg H R I (f sg H R q)⟩
theorem Mono.refl (G : Addr → Prop) (io : List Addr) (H : Hp) : Mono G io H G io H := (Ext.refl io H).mono
theorem Mono.trans {G G1 G2 : Addr → Prop} {io io1 io2 : List Addr} {H H1 H2 : Hp} (a : Mono G io H G1 io1 H1) (b : Mono G1 io1 H1 G2 io2 H2) : Mono G io H G2 io2 H2 := by
  obtain ⟨m1, rfl⟩ := a.pre
  obtain ⟨m2, rfl⟩ := b.pre
  exact ⟨⟨m1 ++ m2, by rw [List.append_assoc]⟩, fun x o n h => let ⟨h1, n1⟩ := a.keep x o n h; b.keep x o n1 h1⟩
/-- the items of a thing that is walked as it lies -/
def items : U → Option (List U)
  | .lst us => some us
  | .tup us => some us
  | .str x => some (x.cps.toList.map fun c => U.str ⟨#[c]⟩)
  | .scr ns => some (ns.map U.int)
  | _ => none
def itemsD (f : DE) : DL := fun env st => (f env st).bind fun u st1 => Rs.of (items u) st1
section
variable {K : PySem.W.Frag} {G : Addr → Prop} {io : List Addr} {H : Hp}
theorem wk_list {a : Addr} {us : List U} {vs : List V} (h : LL K (Wf G io) H a vs) (r : Reps K (Wf G io) io H us vs) : Wk K G (Itl K a) io H us := by
  refine ⟨fun i G' io' st' H' ok m hi => ?_, fun i G' io' st' H' ok m hi => ⟨vs, (h.mono m).sq, by rw [← r.length]; exact hi⟩⟩
  obtain ⟨v, hv, rv⟩ := r.get (List.getElem?_eq_getElem hi)
  refine ⟨⟨vs, v, (h.mono m).sq, hv⟩, fun x H'' y => ?_⟩
  obtain ⟨rfl, y⟩ := y
  have e := (y vs (h.mono m).sq).symm.trans hv
  cases e
  exact ⟨Same.refl _, _, List.getElem?_eq_getElem hi, rv.mono m⟩
theorem wk_scr {a : Addr} {ns : List Int} (h : LS K (Wf G io) H a (ns.map V.int)) : Wk K G (Itl K a) io H (ns.map U.int) := by
  have r : Reps K (Wf G io) io H (ns.map U.int) (ns.map V.int) := Reps.ints ns
  refine ⟨fun i G' io' st' H' ok m hi => ?_, fun i G' io' st' H' ok m hi => ⟨_, (h.mono m).sq, by rw [← r.length]; exact hi⟩⟩
  obtain ⟨v, hv, rv⟩ := r.get (List.getElem?_eq_getElem hi)
  refine ⟨⟨_, v, (h.mono m).sq, hv⟩, fun x H'' y => ?_⟩
  obtain ⟨rfl, y⟩ := y
  have e := (y _ (h.mono m).sq).symm.trans hv
  cases e
  exact ⟨Same.refl _, _, List.getElem?_eq_getElem hi, rv.mono m⟩
theorem wk_tup {a : Addr} {us : List U} {vs : List V} (h : LT K (Wf G io) H a vs) (r : Reps K (Wf G io) io H us vs) : Wk K G (Itt K a) io H us := by
  refine ⟨fun i G' io' st' H' ok m hi => ?_, fun i G' io' st' H' ok m hi => ⟨vs, (h.mono m).sq, by rw [← r.length]; exact hi⟩⟩
  obtain ⟨v, hv, rv⟩ := r.get (List.getElem?_eq_getElem hi)
  refine ⟨⟨vs, v, (h.mono m).sq, hv⟩, fun x H'' y => ?_⟩
  obtain ⟨rfl, y⟩ := y
  have e := (y vs (h.mono m).sq).symm.trans hv
  cases e
  exact ⟨Same.refl _, _, List.getElem?_eq_getElem hi, rv.mono m⟩
theorem wk_str (x : Str) : Wk K G (Its x) io H (x.cps.toList.map fun c => U.str ⟨#[c]⟩) := by
  refine ⟨fun i G' io' st' H' ok m hi => ?_, fun i G' io' st' H' ok m hi => ?_⟩
  · have hi' : i < x.cps.size := by simpa using hi
    refine ⟨hi', fun v H'' y => ?_⟩
    obtain ⟨rfl, c, hc, rfl⟩ := y
    refine ⟨Same.refl _, .str ⟨#[c]⟩, ?_, by unfold Rep; rfl⟩
    rw [List.getElem?_map, Array.getElem?_toList, hc]; rfl
  · show x.cps.size ≤ i
    simpa using hi
theorem wk_range (lo : Int) (n : Nat) : Wk K G (Itr lo n) io H ((List.range n).map fun i => U.int (lo + (i : Nat))) := by
  refine ⟨fun i G' io' st' H' ok m hi => ?_, fun i G' io' st' H' ok m hi => ?_⟩
  · have hi' : i < n := by simpa using hi
    refine ⟨hi', fun v H'' y => ?_⟩
    obtain ⟨rfl, rfl⟩ := y
    refine ⟨Same.refl _, .int (lo + i), ?_, by unfold Rep; rfl⟩
    simp [hi']
  · show n ≤ i
    simpa using hi
end
section
variable {X : Cx} {xs : XS} {wx : WX} {pos : Pos} {tg : Expr}
/-- pyIter by values -/
def ItR (X : Cx) (tg : Expr) (r : V → Hp → (It → Hp → Prop) → Prop) : Prop := ∀ (pins : List (Addr × Obj)) (s : Shared) (sg : L2.St) (H : Hp) (x : V) (v : Value) (R : It → Hp → Prop), Inv X pins sg H s → RelV x v → r x H R →
  wpAny (model X.prog X.w) X.A (pyIter v) (PIE X pins sg tg R) X.xe s
theorem it_list : ItR X tg (fun x H R => ∃ a, x = .ref a ∧ (∃ xs, SqL X.K H a xs) ∧ R (Itl X.K a) H) := by
  intro pins s1 sg H1 x v R I1 r1 q1
  obtain ⟨a, e, ⟨xs, hq⟩, q⟩ := q1
  subst e
  cases r1
  obtain ⟨its, rv, p, hz⟩ := I1.list hq
  refine wpAny_pyIter_list p.isList ?_
  refine ⟨s1.heap.objs.size, [s1.heap.objs.size], _, _, H1, rfl, I1.kept (t' := s1.toks) fun b o e => Heap.get?_push_of_some _ e, turn_list a _, ⟨_, Heap.get?_push_size _ rfl, rfl, rfl⟩, fun b hb => ?_, q⟩
  have e : b = s1.heap.objs.size := by simpa using hb
  subst e
  exact I1.fpOk (Nat.le_refl _) (I1.hok.fresh (Nat.le_refl _))
theorem it_tup : ItR X tg (fun x H R => ∃ a, x = .ref a ∧ (∃ xs, SqT X.K H a xs) ∧ R (Itt X.K a) H) := by
  intro pins s1 sg H1 x v R I1 r1 q1
  obtain ⟨a, e, ⟨xs, hq⟩, q⟩ := q1
  subst e
  cases r1
  obtain ⟨its, rv, p, hz⟩ := I1.tuple hq
  refine wpAny_pyIter_tuple (show s1.heap.IsTuple a its.toArray from p) ?_
  refine ⟨s1.heap.objs.size, [s1.heap.objs.size], _, _, H1, rfl, I1.kept (t' := s1.toks) fun b o e => Heap.get?_push_of_some _ e, turn_tuple a _, ⟨_, Heap.get?_push_size _ rfl, rfl, rfl⟩, fun b hb => ?_, q⟩
  have e : b = s1.heap.objs.size := by simpa using hb
  subst e
  exact I1.fpOk (Nat.le_refl _) (I1.hok.fresh (Nat.le_refl _))
theorem it_str : ItR X tg (fun v H R => ∃ x, v = .str x ∧ R (Its x) H) := by
  intro pins s1 sg H1 y v R I1 r1 q1
  obtain ⟨x, ex, q⟩ := q1
  subst ex
  obtain ⟨t, rfl⟩ := r1
  cases ha : x.cps.all (· < 128)
  · exact wpAny_pyIter_wide ha (pi_one (tk := s1.toks) I1 _ (turn_str _ x t "str_iterator" (.inr rfl)) ⟨_, Heap.get?_push_size _ rfl, rfl, rfl⟩ q)
  · exact wpAny_pyIter_ascii ha (pi_one (tk := s1.toks) I1 _ (turn_str _ x t "str_ascii_iterator" (.inl rfl)) ⟨_, Heap.get?_push_size _ rfl, rfl, rfl⟩ q)
/-- items of a value, plain -/
theorem it_items : ItR X tg (fun x H R => ∃ G io st u us, Ok X.K G io st H ∧ Rep X.K (Wf G io) io H u x ∧ items u = some us ∧ ∀ J, Wk X.K G J io H us → R J H) := by
  intro pins s sg H x v R I r q
  obtain ⟨G, io, st, u, us, ok, rp, e, q⟩ := q
  cases u with
  | lst ws =>
    cases e
    unfold Rep at rp
    obtain ⟨a, vs, rfl, l, rs⟩ := rp
    exact it_list pins s sg H _ v R I r ⟨a, rfl, ⟨vs, l.sq⟩, q _ (wk_list l rs)⟩
  | tup ws =>
    cases e
    unfold Rep at rp
    obtain ⟨a, vs, rfl, l, rs⟩ := rp
    exact it_tup pins s sg H _ v R I r ⟨a, rfl, ⟨vs, l.sq⟩, q _ (wk_tup l rs)⟩
  | str z =>
    cases e
    unfold Rep at rp
    subst rp
    exact it_str pins s sg H _ v R I r ⟨z, rfl, q _ (wk_str z)⟩
  | scr ns =>
    cases e
    unfold Rep at rp
    obtain ⟨a, rfl, l⟩ := rp
    exact it_list pins s sg H _ v R I r ⟨a, rfl, ⟨_, l.sq⟩, q _ (wk_scr l)⟩
  | _ => cases e
theorem i_seq {e : Expr} {f : DE} (h : PE X e (tD X.K xs wx f)) : PI X tg e (tI X.K xs wx (itemsD f)) := by
  refine ⟨fun pins s sg H R I q => ?_⟩
  obtain ⟨G, io, st, env, ok, er, w⟩ := q
  refine thn (h.run pins s sg H (fun x H1 => ∃ G io st u us, Ok X.K G io st H1 ∧ Rep X.K (Wf G io) io H1 u x ∧ items u = some us ∧ ∀ J, Wk X.K G J io H1 us → R J H1) I ?_) fun v s1 ⟨x, H1, I1, r1, q1⟩ => it_items pins s1 sg H1 x v R I1 r1 q1
  refine ⟨G, io, st, env, ok, er, w.bind.impR fun st1 io1 H1 u ok1 e1 w1 v rv => ?_⟩
  obtain ⟨us, hu, w2⟩ := w1.pure
  exact ⟨G, io1, st1, u, us, ok1, rv, hu, fun J k => w2.here ok1 J k⟩
/-- range(n), range(a, b) -/
def rng1 : List U → Option (List U)
  | [.int j] => if -(2 ^ 62) ≤ j ∧ j < 2 ^ 62 then some ((List.range j.toNat).map fun i => U.int (i : Nat)) else none
  | _ => none
def rng2 : List U → Option (List U)
  | [.int i, .int j] => if -(2 ^ 62) ≤ i ∧ i < 2 ^ 62 ∧ -(2 ^ 62) ≤ j ∧ j < 2 ^ 62 then some ((List.range (j - i).toNat).map fun (k : Nat) => U.int (i + (k : Nat))) else none
  | _ => none
def itA (g : List U → Option (List U)) (f : DA) : DL := fun env st => (f env st).bind fun us st1 => Rs.of (g us) st1
theorem i_range1 {a : Expr} {f : DA} {p : Pos} (hg : Gl X "range") (hm : X.mg "range" = none) (ha : PA X [a] (tDA X.K xs wx f)) (hs : starEach [a] X.env = [(false, eval a X.env)] := by rfl) : PI X tg (.Call (.Name "range" p) [a] [] pos) (tI X.K xs wx (itA rng1 f)) :=
  pi_imp (pi_range1 hg hm ha hs) fun sg H R q => by
    obtain ⟨G, io, st, env, ok, er, w⟩ := q
    refine ⟨G, io, st, env, ok, er, w.bind.impR fun st1 io1 H1 us ok1 e1 w1 vs rvs => ?_⟩
    obtain ⟨ws, hu, w2⟩ := w1.pure
    unfold rng1 at hu
    split at hu
    · rename_i j
      split at hu
      · rename_i hj
        cases hu
        have e : vs = [V.int j] := Reps.ofInts (ns := [j]) rvs
        subst e
        refine ⟨j, rfl, hj.1, hj.2, w2.here ok1 _ ?_⟩
        have z := wk_range (K := X.K) (G := G) (io := io1) (H := H1) 0 j.toNat
        simpa using z
      · cases hu
    · cases hu
theorem i_range2 {a b : Expr} {f : DA} {p : Pos} (hg : Gl X "range") (hm : X.mg "range" = none) (ha : PA X [a, b] (tDA X.K xs wx f)) (hs : starEach [a, b] X.env = [(false, eval a X.env), (false, eval b X.env)] := by rfl) (hs2 : starEach [b] X.env = [(false, eval b X.env)] := by rfl) :
    PI X tg (.Call (.Name "range" p) [a, b] [] pos) (tI X.K xs wx (itA rng2 f)) :=
  pi_imp (pi_range2 hg hm ha hs hs2) fun sg H R q => by
    obtain ⟨G, io, st, env, ok, er, w⟩ := q
    refine ⟨G, io, st, env, ok, er, w.bind.impR fun st1 io1 H1 us ok1 e1 w1 vs rvs => ?_⟩
    obtain ⟨ws, hu, w2⟩ := w1.pure
    unfold rng2 at hu
    split at hu
    · rename_i i j
      split at hu
      · rename_i hj
        cases hu
        have e : vs = [V.int i, V.int j] := Reps.ofInts (ns := [i, j]) rvs
        subst e
        exact ⟨i, j, rfl, hj, w2.here ok1 _ (wk_range _ _)⟩
      · cases hu
    · cases hu
/-! ### for -/
def forL (t : Tg) (b : DS) : List U → Env → Store → Out
  | [], env, st => .nx env st
  | u :: us, env, st => match t u with
    | none => .bad
    | some l => match b (setE env l) st with
      | .nx env2 st2 => forL t b us env2 st2
      | .ct env2 st2 => forL t b us env2 st2
      | .bk env2 st2 => .nx env2 st2
      | .rt u st2 => .rt u st2
      | .ex c us env2 st2 => .ex c us env2 st2
      | .bad => .bad
def sFor (f : DL) (t : Tg) (b : DS) : DS := fun env st => (f env st).out env fun us st1 => forL t b us env st1
theorem s_for {iter : Expr} {body : List Stmt} {f : DL} {t : Tg} {b : DS} (hp : PassesOwn (model X.prog X.w) X.A X.env X.xe) (hc : X.calm = true) (hi : PI X tg iter (tI X.K xs wx f)) (hg : PG X tg (gD X.K t)) (hb : PSs X body (tDS X.K xs wx b))
    (hs : ∀ x, foldedSetIterable iter X.env x = Pure.pure x := by intro _; rfl) : PS X (.For tg iter body [] pos) (tDS X.K xs wx (sFor f t b)) := ps_imp (ps_for hp hc hi hg hb hs) fun D sg H h => by
  obtain ⟨F, io, st, env, fr, w⟩ := h
  refine ⟨Gs F env sg, io, st, env, fr.ok, fr.er, (WantsS.expr fr w).impR fun st1 io1 H1 us ok1 ex1 z J wk => ?_⟩
  refine ⟨fun i m sg' H' => ∃ io' st' env', Fr X.K F io' st' env' sg' H' ∧ ExtO io1 H1 (Ow env sg) io' H' (Ow env' sg') ∧ WantsS X.K F io' H' (Ow env' sg') D xs wx (forL t b (us.drop i) env' st') ∧ i + m = us.length,
    ⟨us.length, io1, st1, env, z.1, ExtO.refl _ _ _, z.2, by omega⟩, fun i m sg' H' hW => ?_⟩
  obtain ⟨io', st', env', f', e', w', hm⟩ := hW
  have mn := e'.mono (F := F)
  by_cases hi : i < us.length
  · obtain ⟨hgo, hy⟩ := wk.go i _ io' st' H' f'.ok mn hi
    refine .inr ⟨hgo, fun sg2 H2 => ∃ io' st' env', Fr X.K F io' st' env' sg2 H2 ∧ ExtO io1 H1 (Ow env sg) io' H2 (Ow env' sg2) ∧ WantsS X.K F io' H2 (Ow env' sg2) D xs wx (forL t b (us.drop (i + 1)) env' st') ∧ (i + 1) + (m - 1) = us.length,
      fun sg2 H2 hN => ⟨m - 1, by omega, hN⟩, fun x H'' y => ?_⟩
    obtain ⟨sm, u, hu, ru⟩ := hy x H'' y
    have f2 : Fr X.K F io' st' env' sg' H'' := f'.ext (f'.ok.same sm) (Ext.same sm)
    have e2 : ExtO io1 H1 (Ow env sg) io' H'' (Ow env' sg') := e'.trans ((Ext.same sm).o _)
    have w2 := WantsS.later w' ((Ext.same sm).o (Ow env' sg'))
    rw [List.drop_eq_getElem_cons hi] at w2
    have hu' : us[i] = u := Option.some.inj ((List.getElem?_eq_getElem hi).symm.trans hu)
    rw [hu'] at w2
    unfold forL at w2
    cases ht : t u with
    | none => rw [ht] at w2; exact w2.elim
    | some l =>
      rw [ht] at w2
      simp only at w2
      refine ⟨Gs F env' sg', io', u, l, ru, ht, fun vs rvs => ?_⟩
      obtain ⟨f3, e3⟩ := f2.setAll l vs rvs
      refine ⟨F, io', st', _, f3, ?_⟩
      cases hbo : b (setE env' l) st' with
      | nx env2 st2 =>
        rw [hbo] at w2
        exact fun io4 sg4 H4 f4 e4 => ⟨io4, st2, env2, f4, (e2.trans e3).trans e4, WantsS.later w2 (e3.trans e4), by omega⟩
      | ct env2 st2 =>
        rw [hbo] at w2
        exact fun io4 sg4 H4 f4 e4 => ⟨io4, st2, env2, f4, (e2.trans e3).trans e4, WantsS.later w2 (e3.trans e4), by omega⟩
      | bk env2 st2 =>
        rw [hbo] at w2
        exact fun io4 sg4 H4 f4 e4 => w2 io4 sg4 H4 f4 (e3.trans e4)
      | rt u2 st2 =>
        rw [hbo] at w2
        exact fun io4 H4 v4 f4 e4 => w2 io4 H4 v4 f4 (e3.trans e4)
      | ex c us2 env2 st2 =>
        rw [hbo] at w2
        exact fun io4 sg4 H4 f4 e4 => w2 io4 sg4 H4 f4 (e3.trans e4)
      | bad => rw [hbo] at w2; exact w2.elim
  · refine .inl ⟨wk.stop i _ io' st' H' f'.ok mn (Nat.le_of_not_lt hi), ?_⟩
    rw [List.drop_eq_nil_of_le (Nat.le_of_not_lt hi)] at w'
    exact w' io' sg' H' f' (ExtO.refl _ _ _)
end
end D
namespace D
open PySem L2
def noEx {A : Type} : Rs A → Rs A
  | .ex _ _ _ => .bad
  | r => r
theorem noEx_bind {A B : Type} (r : Rs A) (k : A → Store → Rs B) : noEx (r.bind k) = (noEx r).bind fun a st => noEx (k a st) := by cases r <;> rfl
theorem Wants.noEx {A : Type} {K G io H} {R : Store → List Addr → Hp → A → Prop} {XR XR'} {r : Rs A} (h : Wants K G io H R XR (noEx r)) : Wants K G io H R XR' r := by
  cases r with
  | ok a st => exact h
  | ex c us st => exact h.elim
  | bad => exact h
/-! ### a place that is hidden -/
def hid (H : Hp) (D : Addr) : Hp := fun b => if b = D then none else H b
theorem hid_same {H : Hp} {D : Addr} : hid H D D = none := by unfold hid; rw [if_pos rfl]
theorem hid_ne {H : Hp} {D b : Addr} (h : b ≠ D) : hid H D b = H b := by unfold hid; rw [if_neg h]
theorem hid_some {H : Hp} {D b : Addr} {o : HO} (h : hid H D b = some o) : b ≠ D ∧ H b = some o := by
  by_cases e : b = D
  · subst e; rw [hid_same] at h; cases h
  · rw [hid_ne e] at h; exact ⟨e, h⟩
theorem upd_hid {H : Hp} {D : Addr} {o : HO} (h : H D = some o) : upd (hid H D) D o = H := by
  funext b
  by_cases e : b = D
  · subst e; rw [upd_same, h]
  · rw [upd_ne e, hid_ne e]
theorem hid_upd {H : Hp} {D : Addr} {o : HO} : hid (upd H D o) D = hid H D := by
  funext b
  by_cases e : b = D
  · subst e; rw [hid_same, hid_same]
  · rw [hid_ne e, hid_ne e, upd_ne e]
theorem hid_none {H : Hp} {D : Addr} (h : H D = none) : hid H D = H := by
  funext b
  by_cases e : b = D
  · subst e; rw [hid_same, h]
  · rw [hid_ne e]
section
variable {K : PySem.W.Frag} {G : Addr → Prop} {io io' : List Addr} {H H' : Hp} {D : Addr} {st : Store} {env : Env} {sg : L2.St}
def Gd (G : Addr → Prop) (D : Addr) : Addr → Prop := fun a => G a ∨ a = D
theorem mono_enter : Mono G io (hid H D) (Gd G D) io H := ⟨⟨[], by simp⟩, fun a o n h => by
  obtain ⟨ne, e⟩ := hid_some h
  exact ⟨e, fun z => z.elim (fun z => z.elim (fun z => n (.inl z)) ne) fun z => n (.inr z)⟩⟩
theorem mono_leave : Mono (Gd G D) io H G io (hid H D) := ⟨⟨[], by simp⟩, fun a o n h => by
  have ne : a ≠ D := fun e => n (.inl (.inr e))
  exact ⟨by rw [hid_ne ne]; exact h, fun z => n (z.imp .inl id)⟩⟩
theorem ObRep.mono {G' : Addr → Prop} {a : Addr} {ob : Ob} (m : Mono G io H G' io' H') (keep : ∀ o, H a = some o → H' a = some o) (kx : ∀ dd ws, H dd = some (.xd ws) → H' dd = some (.xd ws)) (h : ObRep K (Wf G io) io H a ob) : ObRep K (Wf G' io') io' H' a ob := by
  cases ob with
  | lst us => obtain ⟨vs, q1, q2⟩ := h; exact ⟨vs, keep _ q1, q2.mono m⟩
  | dct ks us => obtain ⟨kvs, q1, q2, q3⟩ := h; exact ⟨kvs, keep _ q1, q2, q3.mono m⟩
  | dcT ks us => obtain ⟨kvs, q1, q2, q3⟩ := h; exact ⟨kvs, keep _ q1, q2, q3.mono m⟩
  | obj c fs => obtain ⟨C, dx, vs, q1, q2, q3⟩ := h; exact ⟨C, dx, vs, q1, keep _ q2, q3.mono m⟩
  | ins c fs => obtain ⟨C, d, q1, q2, q3⟩ := h; exact ⟨C, d, q1, keep _ q2, q3.keep kx⟩
  | gone => trivial
theorem Ok.enter {o : HO} (h : Ok K G io st (hid H D)) (hD : H D = some o) (hx : NX o) : Ok K (Gd G D) io st H := by
  refine ⟨h.nd, fun a ha z => ?_, fun a ha => ?_, h.len, fun n ob a e1 e2 => ?_⟩
  · rcases z with z | z
    · exact h.dj a ha z
    · subst z
      obtain ⟨o, e, _⟩ := h.trk a (.inr ha)
      exact (hid_some e).1 rfl
  · rcases ha with (z | z) | z
    · obtain ⟨o, e, x⟩ := h.trk a (.inl z); exact ⟨o, (hid_some e).2, x⟩
    · subst z; exact ⟨o, hD, hx⟩
    · obtain ⟨o, e, x⟩ := h.trk a (.inr z); exact ⟨o, (hid_some e).2, x⟩
  · exact (h.obs n ob a e1 e2).mono mono_enter (fun o q => (hid_some q).2) fun _ _ q => (hid_some q).2
theorem Ok.leave (h : Ok K (Gd G D) io st H) (hG : ¬ G D) : Ok K G io st (hid H D) := by
  have nD : D ∉ io := fun z => h.dj D z (.inr rfl)
  refine ⟨h.nd, fun a ha z => h.dj a ha (.inl z), fun a ha => ?_, h.len, fun n ob a e1 e2 => ?_⟩
  · obtain ⟨o, e, x⟩ := h.trk a (ha.imp .inl id)
    have ne : a ≠ D := fun z => by
      subst z
      exact ha.elim hG nD
    exact ⟨o, by rw [hid_ne ne]; exact e, x⟩
  · have ne : a ≠ D := fun z => by
      subst z
      exact nD (List.mem_of_getElem? e2)
    exact (h.obs n ob a e1 e2).mono mono_leave (fun o q => by rw [hid_ne ne]; exact q) fun dd ws q => by
      have nd : dd ≠ D := fun z => by
        subst z
        obtain ⟨o, e, x⟩ := h.trk dd (.inl (.inr rfl))
        rw [q] at e; cases e; exact x ws rfl
      rw [hid_ne nd]; exact q
theorem EnvRep.enter (h : EnvRep K G io (hid H D) env sg) : EnvRep K (Gd G D) io H env sg := ⟨h.len, fun i s o e1 e2 => by
  have q := h.sl i s o e1 e2
  cases s with
  | un => trivial
  | val u => obtain ⟨v, q1, q2⟩ := q; exact ⟨v, q1, q2.mono mono_enter⟩
  | own us => obtain ⟨a, vs, q1, q2, q3, q4⟩ := q; exact ⟨a, vs, q1, .inl q2, (hid_some q3).2, q4.mono mono_enter⟩⟩
theorem Ext.leave (e : Ext io H io' H') : Ext io (hid H D) io' (hid H' D) := by
  obtain ⟨m, q, f⟩ := e.pre
  refine ⟨⟨m, q, fun a ha => ?_⟩, fun a o ha h => ?_, fun a o h => ?_⟩
  · by_cases z : a = D
    · subst z; exact hid_same
    · rw [hid_ne z]; exact f a ha
  · obtain ⟨ne, h⟩ := hid_some h
    rw [hid_ne ne]; exact e.keep a o ha h
  · obtain ⟨ne, h⟩ := hid_some h
    obtain ⟨o', h'⟩ := e.stay a o h
    exact ⟨o', by rw [hid_ne ne]; exact h'⟩
end
/-! ### slots that are wiped -/
theorem wipe_set_mem {i : Nat} {o : Option V} : ∀ (vs : List Nat) (sg : L2.St), i ∈ vs → L2.wipe (sg.set i o) vs = L2.wipe sg vs
  | [], _, h => by simp at h
  | v :: vs, sg, h => by
    unfold L2.wipe
    by_cases hm : i ∈ vs
    · rw [wipe_set_mem vs sg hm]
    · have e : v = i := by
        rcases List.mem_cons.mp h with e | e
        · exact e.symm
        · exact (hm e).elim
      subst e
      have c : ∀ (ws : List Nat) (s : L2.St), v ∉ ws → L2.wipe (s.set v o) ws = (L2.wipe s ws).set v o := by
        intro ws
        induction ws with
        | nil => intro s _; rfl
        | cons x ws ih =>
          intro s hx
          unfold L2.wipe
          rw [ih s fun z => hx (List.mem_cons_of_mem _ z), List.set_comm _ _ fun z => hx (by rw [z]; exact List.mem_cons_self)]
      rw [c vs sg hm, List.set_set]
theorem wipe_wipe (sg : L2.St) (vs : List Nat) : L2.wipe (L2.wipe sg vs) vs = L2.wipe sg vs := by
  have c : ∀ (ws : List Nat), (∀ x ∈ ws, x ∈ vs) → L2.wipe (L2.wipe sg ws) vs = L2.wipe sg vs := by
    intro ws
    induction ws with
    | nil => intro _; rfl
    | cons x ws ih =>
      intro hx
      show L2.wipe ((L2.wipe sg ws).set x none) vs = _
      rw [wipe_set_mem vs _ (hx x List.mem_cons_self), ih fun y hy => hx y (List.mem_cons_of_mem _ hy)]
  exact c vs fun _ h => h
theorem wipe_setS : ∀ (l : List (Nat × V)) (vs : List Nat) (sg : L2.St), (∀ p ∈ l, p.1 ∈ vs) → L2.wipe (setS sg l) vs = L2.wipe sg vs
  | [], _, _, _ => rfl
  | p :: l, vs, sg, h => by
    show L2.wipe (setS (sg.set p.1 (some p.2)) l) vs = _
    rw [wipe_setS l vs _ fun q hq => h q (List.mem_cons_of_mem _ hq), wipe_set_mem vs sg (h p List.mem_cons_self)]
/-! ### comprehensions -/
def compL (t : Tg) (c : DT) (e : DE) : List U → Env → Store → Rs (List U)
  | [], _, st => .ok [] st
  | u :: us, env, st => match t u with
    | none => .bad
    | some l => (c (setE env l) st).bind fun b st1 => if b = true then (e (setE env l) st1).bind fun v st2 => (compL t c e us env st2).bind fun r st3 => .ok (v :: r) st3 else compL t c e us env st1
def compD (f : DL) (vs : List Nat) (t : Tg) (c : DT) (e : DE) : DL := fun env st => (f env st).bind fun us st1 => if us.length ≤ sizeLine then noEx (compL t c e us (wipeE env vs) st1) else .bad
def yesT : DT := fun _ st => .ok true st
abbrev wF : WX := fun _ _ _ _ => False
section
variable {X : Cx} {xs : XS} {wx : WX} {pos : Pos} {tg : Expr}
theorem ts_nil : PTs X [] (tDT X.K xs wx yesT) := ⟨fun pins s sg H Q I h => pts_nil.run pins s sg H Q I (by
  obtain ⟨G, io, st, env, ok, er, w⟩ := h
  exact w.here ok)⟩
theorem ts_one {c : Expr} {t : DT} (h : PT X c (tDT X.K xs wx t)) : PTs X [c] (tDT X.K xs wx t) := pts_one h
theorem comp_read {f : DL} {vs : List Nat} {t : Tg} {c : DT} {e : DE} {sg : L2.St} {H : Hp} {Q : VK} (hvs : ∀ u l, t u = some l → ∀ p ∈ l, p.1 ∈ vs) (h : tDL X.K xs wx (compD f vs t c e) sg H Q) :
    tLc (tI X.K xs wx f) (gD X.K t) (tDT X.K xs wF c) (tD X.K xs wF e) vs sg H Q := by
  obtain ⟨G, io, st, env, ok, er, w⟩ := h
  refine ⟨G, io, st, env, ok, er, w.bind.impR fun st1 io1 H1 us ok1 e1 w1 J wk D hD => ?_⟩
  split at w1
  case isFalse => exact w1.elim
  rename_i hz
  have nG : ¬ Wf G io1 D := ok1.fresh hD
  have er1 : EnvRep X.K G io1 H1 (wipeE env vs) (L2.wipe sg vs) := (er.ext ok.dj e1).wipe vs
  have hH : hid (upd H1 D (.lst [])) D = H1 := by rw [hid_upd, hid_none hD]
  refine ⟨fun i m H' => ∃ io' st' acc accv, Ok X.K G io' st' (hid H' D) ∧ Ext io1 H1 io' (hid H' D) ∧ H' D = some (.lst accv) ∧ Reps X.K (Wf G io') io' (hid H' D) acc accv ∧ acc.length ≤ i ∧ i + m = us.length ∧
      Wants X.K G io' (hid H' D) (fun _ io'' H'' ws => ∀ vs a, Reps X.K (Wf G io'') io'' H'' (acc ++ ws) vs → H'' a = none → Q (.ref a) (upd H'' a (.lst vs))) (XW xs wx sg) (noEx (compL t c e (us.drop i) (wipeE env vs) st')),
    ⟨us.length, io1, st1, [], [], by rw [hH]; exact ok1, by rw [hH]; exact Ext.refl _ _, upd_same, .nil, by simp, by omega, ?_⟩, fun i m H' hW => ?_⟩
  · rw [hH]
    exact w1.impR fun st' io' H' ws _ _ q => q
  obtain ⟨io', st', acc, accv, ok', ex', hD', ra, hai, hm, w'⟩ := hW
  have nio : D ∉ io' := fun z => by
    obtain ⟨o, q, _⟩ := ok'.trk D (.inr z)
    exact (hid_some q).1 rfl
  have okE : Ok X.K (Gd G D) io' st' H' := ok'.enter hD' nx_lst
  have mE : Mono G io1 H1 (Gd G D) io' H' := ex'.mono.trans mono_enter
  have erE : EnvRep X.K (Gd G D) io' H' (wipeE env vs) (L2.wipe sg vs) := (er1.ext ok1.dj ex').enter
  by_cases hi : i < us.length
  · obtain ⟨hgo, hy⟩ := wk.go i _ io' st' H' okE mE hi
    refine .inr ⟨hgo, _, fun H2 hN => ⟨m - 1, by omega, hN⟩, fun x H'' y => ?_⟩
    obtain ⟨sm, u, hu, ru⟩ := hy x H'' y
    have ok2 := okE.same sm
    have ex2 : Ext io' H' io' H'' := Ext.same sm
    have er2 : EnvRep X.K (Gd G D) io' H'' (wipeE env vs) (L2.wipe sg vs) := erE.ext okE.dj ex2
    rw [List.drop_eq_getElem_cons hi] at w'
    have hu' : us[i] = u := Option.some.inj ((List.getElem?_eq_getElem hi).symm.trans hu)
    rw [hu'] at w'
    unfold compL at w'
    cases ht : t u with
    | none => rw [ht] at w'; exact w'.elim
    | some l =>
      rw [ht] at w'
      simp only at w'
      refine ⟨Gd G D, io', u, l, ru, ht, fun lvs rvs => ⟨?_, ?_⟩⟩
      · rw [wipe_setS _ _ _ fun p hp => ?_, wipe_wipe]
        have hp1 : p.1 ∈ l.map (·.1) := (List.of_mem_zip hp).1
        obtain ⟨q, hq, e⟩ := List.mem_map.mp hp1
        rw [← e]
        exact hvs u l ht q hq
      have er3 := EnvRep.setAll l lvs er2 rvs
      have w2 := w'.later (Ext.leave (D := D) ex2)
      rw [noEx_bind] at w2
      -- the test
      have lift : ∀ {A : Type} {R : Store → List Addr → Hp → A → Prop} {XR} {r : Rs A} {io' : List Addr} {H' : Hp}, Wants X.K G io' (hid H' D) R XR (noEx r) → Wants X.K (Gd G D) io' H' (fun st2 io2 H2 a => Ok X.K G io2 st2 (hid H2 D) ∧ Ext io' (hid H' D) io2 (hid H2 D) ∧ R st2 io2 (hid H2 D) a) (XW xs wF (setS (L2.wipe sg vs) ((l.map (·.1)).zip lvs))) r := by
        intro A R XR r io' H' h
        cases r with
        | ok a st2 => exact fun io2 H2 o2 e2 => ⟨o2.leave fun z => nG (.inl z), e2.leave, h io2 _ (o2.leave fun z => nG (.inl z)) e2.leave⟩
        | ex _ _ _ => exact h.elim
        | bad => exact h
      have d2 : H'' D = some (.lst accv) := sm _ _ hD'
      refine ⟨Gd G D, io', st', _, ok2, er3, (lift w2.bind).impR fun st3 io3 H3 b ok3 e3 q => ?_⟩
      have d3 : H3 D = some (.lst accv) := e3.keep D _ nio d2
      have nio3 : D ∉ io3 := fun z => ok3.dj D z (.inr rfl)
      have exA : Ext io1 H1 io3 (hid H3 D) := (ex'.trans (Ext.leave (D := D) ex2)).trans q.2.1
      obtain ⟨q1, q2, q3⟩ := q
      cases b with
      | false => exact ⟨io3, st3, acc, accv, q1, exA, d3, (ra.ext (Ext.leave (D := D) ex2)).ext q2, by omega, by omega, q3⟩
      | true =>
        simp only [if_true] at q3
        rw [noEx_bind] at q3
        refine ⟨Gd G D, io3, st3, _, ok3, er3.ext ok2.dj e3, (lift q3.bind).impR fun st4 io4 H4 v ok4 e4 q4 y ry => ?_⟩
        obtain ⟨p1, p2, p3⟩ := q4
        have d4 : H4 D = some (.lst accv) := e4.keep D _ nio3 d3
        have rA := ((ra.ext (Ext.leave (D := D) ex2)).ext q2).ext p2
        refine ⟨accv, d4, ?_, io4, st4, acc ++ [v], accv ++ [y], ?_, ?_, upd_same, ?_, by simp; omega, by omega, ?_⟩
        · rw [← ra.length]; omega
        · rw [hid_upd]; exact p1
        · rw [hid_upd]; exact exA.trans p2
        · rw [hid_upd]; exact rA.append (.cons (ry.mono mono_leave) .nil)
        · rw [hid_upd]
          rw [noEx_bind] at p3
          refine p3.bind.impR fun st5 io5 H5 ws ok5 e5 q5 => ?_
          have q6 := Wants.here (a := v :: ws) q5 ok5
          intro vs' a' r' n'
          exact q6 vs' a' (by rw [List.append_assoc] at r'; exact r') n'
  · refine .inl ⟨wk.stop i _ io' st' H' okE mE (Nat.le_of_not_lt hi), ?_⟩
    rw [List.drop_eq_nil_of_le (Nat.le_of_not_lt hi)] at w'
    have q := Wants.here (a := ([] : List U)) w' ok' accv D (by rw [List.append_nil]; exact ra) hid_same
    rw [upd_hid hD'] at q
    exact q
theorem l_comp {elt iter : Expr} {ifs : List Expr} {scope : Scope} {own : List (Str × Nat)} {f : DL} {t : Tg} {c : DT} {e : DE} (hc : X.calm = true) (hN : X.N.Nodup) (hi : PI X tg iter (tI X.K xs wx f)) (ok : BlkOk X.N X.env.scope scope own)
    (hvs : ∀ u l, t u = some l → ∀ p ∈ l, p.1 ∈ own.map (·.2))
    (hg : ∀ (s : Shared) (H : Hp) (C : Addr) (cl : List (Str × Addr)) (fp : List Addr), PG (X.blk s H scope (compEnvC scope cl C X.env) fp) tg (gD X.K t)) (ht : ∀ (s : Shared) (H : Hp) (C : Addr) (cl : List (Str × Addr)) (fp : List Addr), PTs (X.blk s H scope (compEnvC scope cl C X.env) fp) ifs (tDT X.K xs wF c))
    (he : ∀ (s : Shared) (H : Hp) (C : Addr) (cl : List (Str × Addr)) (fp : List Addr), PE (X.blk s H scope (compEnvC scope cl C X.env) fp) elt (tD X.K xs wF e)) (hs : ∀ x, foldedSetIterable iter X.env x = Pure.pure x := by intro _; rfl) :
    PE X (.ListComp elt [⟨tg, iter, ifs, 0⟩] scope pos) (tDL X.K xs wx (compD f (own.map (·.2)) t c e)) := pe_imp (pe_lc hc hN hi ok hg ht he hs) fun sg H Q h => comp_read hvs h
/-- x = [..] on one line -/
theorem s_setLc {i : Nat} {y : Str} {py spos : Pos} {elt iter : Expr} {ifs : List Expr} {scope : Scope} {own : List (Str × Nat)} {f : DL} {t : Tg} {c : DT} {e : DE} (hc : X.calm = true) (hN : X.N.Nodup) (hy : X.N[i]? = some y) (hyl : X.env.scope.names.lookup y = some .local)
    (hsw : swapsWith (.ListComp elt [⟨tg, iter, ifs, 0⟩] scope pos) (some (.Name y py)) spos.line X.env = Pure.pure true) (hi : PI X tg iter (tI X.K xs wx f)) (ok : BlkOk X.N X.env.scope scope own)
    (hvs : ∀ u l, t u = some l → ∀ p ∈ l, p.1 ∈ own.map (·.2))
    (hg : ∀ (s : Shared) (H : Hp) (C : Addr) (cl : List (Str × Addr)) (fp : List Addr), PG (X.blk s H scope (compEnvC scope cl C X.env) fp) tg (gD X.K t)) (ht : ∀ (s : Shared) (H : Hp) (C : Addr) (cl : List (Str × Addr)) (fp : List Addr), PTs (X.blk s H scope (compEnvC scope cl C X.env) fp) ifs (tDT X.K xs wF c))
    (he : ∀ (s : Shared) (H : Hp) (C : Addr) (cl : List (Str × Addr)) (fp : List Addr), PE (X.blk s H scope (compEnvC scope cl C X.env) fp) elt (tD X.K xs wF e)) (hs : ∀ x, foldedSetIterable iter X.env x = Pure.pure x := by intro _; rfl) :
    PS X (.Assign [.Name y py] (.ListComp elt [⟨tg, iter, ifs, 0⟩] scope pos) spos) (tDS X.K xs wx (sOwn i (compD f (own.map (·.2)) t c e))) := ps_imp (ps_setLc hc hN hy hyl hsw hi ok hg ht he hs) fun D sg H h => by
  obtain ⟨F, io, st, env, fr, w⟩ := h
  refine comp_read hvs ⟨Gs F env sg, io, st, env, fr.ok, fr.er, (WantsS.expr fr w).impR fun st1 io1 H1 us ok1 e1 q vs a rvs na => ?_⟩
  have q2 := q.2
  split at q2
  · rename_i hl
    have z := q.1.setOwn (i := i) na rvs hl
    exact q2 io1 _ _ z.1 z.2
  · exact q2.elim
theorem s_setLcV {i : Nat} {y : Str} {py spos : Pos} {elt iter : Expr} {ifs : List Expr} {scope : Scope} {own : List (Str × Nat)} {f : DL} {t : Tg} {c : DT} {e : DE} (hc : X.calm = true) (hN : X.N.Nodup) (hy : X.N[i]? = some y) (hyl : X.env.scope.names.lookup y = some .local)
    (hsw : swapsWith (.ListComp elt [⟨tg, iter, ifs, 0⟩] scope pos) (some (.Name y py)) spos.line X.env = Pure.pure true) (hi : PI X tg iter (tI X.K xs wx f)) (ok : BlkOk X.N X.env.scope scope own)
    (hvs : ∀ u l, t u = some l → ∀ p ∈ l, p.1 ∈ own.map (·.2))
    (hg : ∀ (s : Shared) (H : Hp) (C : Addr) (cl : List (Str × Addr)) (fp : List Addr), PG (X.blk s H scope (compEnvC scope cl C X.env) fp) tg (gD X.K t)) (ht : ∀ (s : Shared) (H : Hp) (C : Addr) (cl : List (Str × Addr)) (fp : List Addr), PTs (X.blk s H scope (compEnvC scope cl C X.env) fp) ifs (tDT X.K xs wF c))
    (he : ∀ (s : Shared) (H : Hp) (C : Addr) (cl : List (Str × Addr)) (fp : List Addr), PE (X.blk s H scope (compEnvC scope cl C X.env) fp) elt (tD X.K xs wF e)) (hs : ∀ x, foldedSetIterable iter X.env x = Pure.pure x := by intro _; rfl) :
    PS X (.Assign [.Name y py] (.ListComp elt [⟨tg, iter, ifs, 0⟩] scope pos) spos) (tDS X.K xs wx (sSet i (newL (compD f (own.map (·.2)) t c e)))) := ps_imp (ps_setLc hc hN hy hyl hsw hi ok hg ht he hs) fun D sg H h => by
  obtain ⟨F, io, st, env, fr, w⟩ := h
  refine comp_read hvs ⟨Gs F env sg, io, st, env, fr.ok, fr.er, ?_⟩
  refine (WantsS.expr fr w).bind.impR fun st1 io1 H1 us ok1 e1 q vs a rvs na => ?_
  have q1 := Wants.hereS (a := U.lst us) q ok1 (same_upd (o := .lst vs) na)
  have z := q1.1.setVal (i := i) (ok1.newL na rvs)
  exact q1.2 io1 _ _ z.1 z.2
end
end D
namespace D
open PySem L2
/-! ### a def -/
def fin : Out → Rs U
  | .rt u st => .ok u st
  | .nx _ st => .ok .non st
  | .ex c us _ st => .ex c us st
  | _ => .bad
def env0 (m : Nat) (us : List U) : Env := us.map Sl.val ++ List.replicate (m - us.length) .un
def runB (m n : Nat) (body : DS) : List U → Store → Rs U := fun us st => if us.length = n then fin (body (env0 m us) st) else .bad
theorem runB_bad {m n : Nat} {body : DS} (us : List U) (st : Store) (h : us.length ≠ n) : runB m n body us st = .bad := by unfold runB; rw [if_neg h]
theorem env0_no {m : Nat} {us : List U} {i : Nat} {ws : List U} : (env0 m us)[i]? ≠ some (.own ws) := fun h => by
  unfold env0 at h
  rcases List.mem_append.mp (List.mem_of_getElem? h) with h | h
  · obtain ⟨_, _, e⟩ := List.mem_map.mp h; cases e
  · have := List.eq_of_mem_replicate h; cases this
theorem start_rep {K : PySem.W.Frag} {G : Addr → Prop} {io : List Addr} {H : Hp} {N : List Str} {us : List U} {vs : List V} (r : Reps K (Wf G io) io H us vs) (m : Nat) : EnvRep K G io H (env0 m us) (vs.map some ++ List.replicate (m - vs.length) none) := by
  have hl := r.length
  refine ⟨by unfold env0; simp [hl], fun i s o h1 h2 => ?_⟩
  unfold env0 at h1
  by_cases hi : i < us.length
  · rw [List.getElem?_append_left (by simpa using hi)] at h1
    rw [List.getElem?_append_left (by simpa [← hl] using hi)] at h2
    rw [List.getElem?_map, List.getElem?_eq_getElem hi] at h1
    obtain ⟨v, hv, rv⟩ := r.get (List.getElem?_eq_getElem hi)
    rw [List.getElem?_map, hv] at h2
    cases h1; cases h2
    exact ⟨v, rfl, rv⟩
  · rw [List.getElem?_append_right (by simpa using Nat.le_of_not_lt hi)] at h1
    have e := List.eq_of_mem_replicate (List.mem_of_getElem? h1)
    subst e
    trivial
section
variable {P : Program} {w : World} {K : PySem.W.Frag} {mg : Str → Option Value} {base : Heap} {xs : XS}
theorem fn_d {x qual : Str} {s : Stmt} {f : Addr} {fd : FuncData} {N ps : List Str} {k : Nat} {body : DS} (F : Fun K x qual s f fd) (S : FnScope N ps (defScope s))
    (hb : ∀ (cdv : Value) (A : Around) (outer : List PySem.Env) (sh : Shared) (H : Hp) (E : XK), Room k (A.deeper (PyProof.Rows.envOfC qual (defScope s) sh.heap.objs.size f cdv)) →
      PSs (cxOf (L2.CX P w) P w K mg base N qual (defScope s) f cdv A outer sh H E) (defBody s) (tDS K xs (fun cls d _ H => E cls d H) body)) :
    FnOk P w K mg base (L2.CX P w) (k + 1) f fd ps (spD K xs ps.length (runB N.length ps.length body)) := by
  refine F.okX S (fun vs H Q E h => h.1) (fun cdv A outer sh H vs Q E hr h => ⟨_, hb cdv A outer sh H E hr, ?_⟩)
  obtain ⟨hl, G, io, st, us, ok, r, w⟩ := h
  have no : ∀ a, ¬ Ow (env0 N.length us) (start N vs) a := fun a ⟨i, ws, h1, _⟩ => env0_no h1
  have sub : ∀ a, Gs G (env0 N.length us) (start N vs) a → G a := fun a h => h.elim id fun z => (no a z).elim
  have m : Mono G io H (Gs G (env0 N.length us) (start N vs)) io H := ⟨⟨[], by simp⟩, fun a o n h => ⟨h, fun z => n (z.imp (sub a) id)⟩⟩
  refine ⟨G, io, st, env0 N.length us, ⟨ok.mono sub, start_rep (N := N) (r.mono m) N.length, fun a h => (no a h).elim, fun i j a us us' h1 _ _ _ => (env0_no h1).elim⟩, ?_⟩
  unfold runB at w
  rw [if_pos (show us.length = ps.length by rw [r.length]; exact hl)] at w
  have toE : ∀ {io' H' O'}, ExtO io H (Ow (env0 N.length us) (start N vs)) io' H' O' → Ext io H io' H' := fun e => ⟨let ⟨m, q1, q2⟩ := e.pre; ⟨m, q1, fun a h => (q2 a h).elim id fun z => (no a z).elim⟩, fun a o h q => e.keep a o h (no a) q, e.stay⟩
  cases q : body (env0 N.length us) st with
  | nx env' st' => rw [q] at w; exact fun io' sg' H' f' e' => w io' H' (f'.ok.mono fun _ => .inl) (toE e') .non (by unfold Rep; rfl)
  | rt u st' => rw [q] at w; exact fun io' H' v o' e' rv => w io' H' o' (toE e') v rv
  | ex c us env' st' => rw [q] at w; exact fun io' sg' H' f' e' cls d hx => w io' H' (f'.ok.mono fun _ => .inl) (toE e') cls d hx
  | bk _ _ => rw [q] at w; exact w.elim
  | ct _ _ => rw [q] at w; exact w.elim
  | bad => rw [q] at w; exact w.elim
end
/-! ### operators -/
def add2 : U → U → Option U
  | .int i, .int j => some (.int (i + j))
  | .str x, .str y => if x.length + y.length ≤ sizeLine then some (.str (x ++ y)) else none
  | .tup x, .tup y => if x.length + y.length ≤ sizeLine then some (.tup (x ++ y)) else none
  | .lst x, .lst y => if x.length + y.length ≤ sizeLine then some (.lst (x ++ y)) else none
  | _, _ => none
def sub2 : U → U → Option U
  | .int i, .int j => some (.int (i - j))
  | _, _ => none
def smallI (i : Int) : Bool := decide (-(2 ^ 64) < i ∧ i < 2 ^ 64)
def mul2 : U → U → Option U
  | .int i, .int j => if smallI i || smallI j then some (.int (i * j)) else none
  | .lst x, .int k => if -(2 ^ 63) ≤ k ∧ k < 2 ^ 63 ∧ x.length * k.toNat ≤ sizeLine then some (.lst (List.replicate k.toNat x).flatten) else none
  | _, _ => none
def mod2 : U → U → Option U
  | .int i, .int j => if 0 < j then some (.int (i % j)) else none
  | _, _ => none
def fdiv2 : U → U → Option U
  | .int i, .int j => if 0 < j ∧ j < 1073741824 then some (.int (i / j)) else none
  | _, _ => none
def pow2 : U → U → Option U
  | .int i, .int j => if 0 ≤ j ∧ j ≤ 1000000 ∧ i.natAbs < 2 ^ 64 then some (.int (i ^ j.toNat)) else none
  | _, _ => none
def shl2 : U → U → Option U
  | .int i, .int j => if 0 ≤ j ∧ j ≤ 1000000 ∧ i.natAbs < 2 ^ 64 then some (.int (i * 2 ^ j.toNat)) else none
  | _, _ => none
def neg1 : U → Option U
  | .int i => some (.int (-i))
  | _ => none
def ltC (x y : Str) : Bool := decide (x.cps.toList < y.cps.toList)
def lt2 : U → U → Option U
  | .int i, .int j => some (.bl (decide (i < j)))
  | .str x, .str y => some (.bl (ltC x y))
  | _, _ => none
def le2 : U → U → Option U
  | .int i, .int j => some (.bl (decide (i ≤ j)))
  | .str x, .str y => some (.bl (!ltC y x))
  | _, _ => none
def gt2 : U → U → Option U
  | .int i, .int j => some (.bl (decide (j < i)))
  | .str x, .str y => some (.bl (ltC y x))
  | _, _ => none
def ge2 : U → U → Option U
  | .int i, .int j => some (.bl (decide (j ≤ i)))
  | .str x, .str y => some (.bl (!ltC x y))
  | _, _ => none
section
variable {K : PySem.W.Frag} {W : Addr → Prop} {io : List Addr} {H : Hp}
theorem Rep.int' {i : Int} {v : V} (h : Rep K W io H (.int i) v) : v = .int i := by unfold Rep at h; exact h
theorem Rep.str' {i : Str} {v : V} (h : Rep K W io H (.str i) v) : v = .str i := by unfold Rep at h; exact h
theorem Rep.bl' {i : Bool} {v : V} (h : Rep K W io H (.bl i) v) : v = .bl i := by unfold Rep at h; exact h
theorem Rep.non' {v : V} (h : Rep K W io H .non v) : v = .non := by unfold Rep at h; exact h
theorem Rep.tup' {us : List U} {v : V} (h : Rep K W io H (.tup us) v) : ∃ a vs, v = .ref a ∧ LT K W H a vs ∧ Reps K W io H us vs := by unfold Rep at h; exact h
theorem Rep.lst' {us : List U} {v : V} (h : Rep K W io H (.lst us) v) : ∃ a vs, v = .ref a ∧ LL K W H a vs ∧ Reps K W io H us vs := by unfold Rep at h; exact h
theorem rInt (i : Int) : Rep K W io H (.int i) (.int i) := by unfold Rep; rfl
theorem rStr (i : Str) : Rep K W io H (.str i) (.str i) := by unfold Rep; rfl
theorem rBl (i : Bool) : Rep K W io H (.bl i) (.bl i) := by unfold Rep; rfl
theorem rNon : Rep K W io H .non .non := by unfold Rep; rfl
theorem rTup {us : List U} {a : Addr} {vs : List V} (l : LT K W H a vs) (r : Reps K W io H us vs) : Rep K W io H (.tup us) (.ref a) := by unfold Rep; exact ⟨a, vs, rfl, l, r⟩
end
theorem Reps.rep {K : PySem.W.Frag} {W : Addr → Prop} {io : List Addr} {H : Hp} {us : List U} {vs : List V} (h : Reps K W io H us vs) : ∀ k : Nat, Reps K W io H (List.replicate k us).flatten (List.replicate k vs).flatten
  | 0 => .nil
  | k + 1 => by
    rw [List.replicate_succ, List.replicate_succ, List.flatten_cons, List.flatten_cons]
    exact h.append (Reps.rep h k)
section
variable {X : Cx}
theorem o_add : OpR X (binaryOp .Add) (P2 X.K add2) := by
  intro pins s sg H x y v u Q I rx ry h
  obtain ⟨G, io, st, u1, u2, u3, ok, r1, r2, e, q⟩ := h
  unfold add2 at e
  split at e
  · cases e; have e1 := r1.int'; have e2 := r2.int'; subst e1; subst e2
    exact op_add pins s sg H _ _ v u Q I rx ry ⟨_, _, rfl, rfl, q _ H (Same.refl H) (rInt _)⟩
  · split at e
    · rename_i hz
      cases e; have e1 := r1.str'; have e2 := r2.str'; subst e1; subst e2
      exact op_add_str pins s sg H _ _ v u Q I rx ry ⟨_, _, rfl, rfl, hz, q _ H (Same.refl H) (rStr _)⟩
    · cases e
  · split at e
    · rename_i hz
      cases e
      obtain ⟨a, vs, rfl, l1, s1⟩ := r1.tup'
      obtain ⟨b, ws, rfl, l2, s2⟩ := r2.tup'
      refine op_catA pins s sg H _ _ v u Q I rx ry ⟨a, b, vs, ws, rfl, rfl, l1.sq, l2.sq, by rw [← s1.length, ← s2.length]; exact hz, fun e => ?_, fun n e => ?_, fun n1 n2 p hp => ?_⟩
      · subst e
        have e0 : _ = [] := List.eq_nil_of_length_eq_zero (by rw [s1.length]; rfl)
        subst e0
        exact q _ H (Same.refl H) (rTup l2 s2)
      · subst e
        have e0 : _ = [] := List.eq_nil_of_length_eq_zero (by rw [s2.length]; rfl)
        subst e0
        exact q _ H (Same.refl H) (by rw [List.append_nil]; exact rTup l1 s1)
      · exact q _ _ (same_upd hp) (ok.newT hp (s1.append s2))
    · cases e
  · split at e
    · rename_i hz
      cases e
      obtain ⟨a, vs, rfl, l1, s1⟩ := r1.lst'
      obtain ⟨b, ws, rfl, l2, s2⟩ := r2.lst'
      exact op_cat pins s sg H _ _ v u Q I rx ry ⟨a, b, vs, ws, rfl, rfl, l1.1, l2.1, by rw [← s1.length, ← s2.length]; exact hz, fun p hp => q _ _ (same_upd hp) (ok.newL hp (s1.append s2))⟩
    · cases e
  · cases e
theorem o_sub : OpR X (binaryOp .Sub) (P2 X.K sub2) := by
  intro pins s sg H x y v u Q I rx ry h
  obtain ⟨G, io, st, u1, u2, u3, ok, r1, r2, e, q⟩ := h
  unfold sub2 at e
  split at e
  · cases e; have e1 := r1.int'; have e2 := r2.int'; subst e1; subst e2
    exact op_sub pins s sg H _ _ v u Q I rx ry ⟨_, _, rfl, rfl, q _ H (Same.refl H) (rInt _)⟩
  · cases e
theorem o_mul : OpR X (binaryOp .Mult) (P2 X.K mul2) := by
  intro pins s sg H x y v u Q I rx ry h
  obtain ⟨G, io, st, u1, u2, u3, ok, r1, r2, e, q⟩ := h
  unfold mul2 at e
  split at e
  · split at e
    · rename_i hs
      cases e; have e1 := r1.int'; have e2 := r2.int'; subst e1; subst e2
      refine op_mul pins s sg H _ _ v u Q I rx ry ⟨_, _, rfl, rfl, ?_, q _ H (Same.refl H) (rInt _)⟩
      rw [Bool.or_eq_true] at hs
      exact hs.imp of_decide_eq_true of_decide_eq_true
    · cases e
  · split at e
    · rename_i hz
      cases e
      obtain ⟨a, vs, rfl, l1, s1⟩ := r1.lst'
      have e2 := r2.int'; subst e2
      exact op_rep pins s sg H _ _ v u Q I rx ry ⟨a, _, vs, rfl, rfl, l1.1, hz.1, hz.2.1, by rw [← s1.length]; exact hz.2.2, fun p hp => q _ _ (same_upd hp) (ok.newL hp (s1.rep _))⟩
    · cases e
  · cases e
theorem o_mod : OpR X (binaryOp .Mod) (P2 X.K mod2) := by
  intro pins s sg H x y v u Q I rx ry h
  obtain ⟨G, io, st, u1, u2, u3, ok, r1, r2, e, q⟩ := h
  unfold mod2 at e
  split at e
  · split at e
    · rename_i hs
      cases e; have e1 := r1.int'; have e2 := r2.int'; subst e1; subst e2
      exact op_mod pins s sg H _ _ v u Q I rx ry ⟨_, _, rfl, rfl, hs, q _ H (Same.refl H) (rInt _)⟩
    · cases e
  · cases e
theorem o_fdiv : OpR X (binaryOp .FloorDiv) (P2 X.K fdiv2) := by
  intro pins s sg H x y v u Q I rx ry h
  obtain ⟨G, io, st, u1, u2, u3, ok, r1, r2, e, q⟩ := h
  unfold fdiv2 at e
  split at e
  · split at e
    · rename_i hs
      cases e; have e1 := r1.int'; have e2 := r2.int'; subst e1; subst e2
      exact op_fdiv pins s sg H _ _ v u Q I rx ry ⟨_, _, rfl, rfl, hs, q _ H (Same.refl H) (rInt _)⟩
    · cases e
  · cases e
theorem o_pow : OpR X (binaryOp .Pow) (P2 X.K pow2) := by
  intro pins s sg H x y v u Q I rx ry h
  obtain ⟨G, io, st, u1, u2, u3, ok, r1, r2, e, q⟩ := h
  unfold pow2 at e
  split at e
  · split at e
    · rename_i hs
      cases e; have e1 := r1.int'; have e2 := r2.int'; subst e1; subst e2
      exact op_pow pins s sg H _ _ v u Q I rx ry ⟨_, _, rfl, rfl, hs, q _ H (Same.refl H) (rInt _)⟩
    · cases e
  · cases e
theorem o_shl : OpR X (binaryOp .LShift) (P2 X.K shl2) := by
  intro pins s sg H x y v u Q I rx ry h
  obtain ⟨G, io, st, u1, u2, u3, ok, r1, r2, e, q⟩ := h
  unfold shl2 at e
  split at e
  · split at e
    · rename_i hs
      cases e; have e1 := r1.int'; have e2 := r2.int'; subst e1; subst e2
      exact op_shl pins s sg H _ _ v u Q I rx ry ⟨_, _, rfl, rfl, hs, q _ H (Same.refl H) (rInt _)⟩
    · cases e
  · cases e
theorem o_lt : OpR X (compareOp .Lt) (P2 X.K lt2) := by
  intro pins s sg H x y v u Q I rx ry h
  obtain ⟨G, io, st, u1, u2, u3, ok, r1, r2, e, q⟩ := h
  unfold lt2 at e
  split at e
  · cases e; have e1 := r1.int'; have e2 := r2.int'; subst e1; subst e2
    exact op_lt pins s sg H _ _ v u Q I rx ry ⟨_, _, rfl, rfl, q _ H (Same.refl H) (rBl _)⟩
  · cases e; have e1 := r1.str'; have e2 := r2.str'; subst e1; subst e2
    exact op_lt_str pins s sg H _ _ v u Q I rx ry ⟨_, _, rfl, rfl, q _ H (Same.refl H) (rBl _)⟩
  · cases e
theorem o_le : OpR X (compareOp .LtE) (P2 X.K le2) := by
  intro pins s sg H x y v u Q I rx ry h
  obtain ⟨G, io, st, u1, u2, u3, ok, r1, r2, e, q⟩ := h
  unfold le2 at e
  split at e
  · cases e; have e1 := r1.int'; have e2 := r2.int'; subst e1; subst e2
    exact op_le pins s sg H _ _ v u Q I rx ry ⟨_, _, rfl, rfl, q _ H (Same.refl H) (rBl _)⟩
  · cases e; have e1 := r1.str'; have e2 := r2.str'; subst e1; subst e2
    exact op_le_str pins s sg H _ _ v u Q I rx ry ⟨_, _, rfl, rfl, q _ H (Same.refl H) (rBl _)⟩
  · cases e
theorem o_gt : OpR X (compareOp .Gt) (P2 X.K gt2) := by
  intro pins s sg H x y v u Q I rx ry h
  obtain ⟨G, io, st, u1, u2, u3, ok, r1, r2, e, q⟩ := h
  unfold gt2 at e
  split at e
  · cases e; have e1 := r1.int'; have e2 := r2.int'; subst e1; subst e2
    exact op_gt pins s sg H _ _ v u Q I rx ry ⟨_, _, rfl, rfl, q _ H (Same.refl H) (rBl _)⟩
  · cases e; have e1 := r1.str'; have e2 := r2.str'; subst e1; subst e2
    exact op_gt_str pins s sg H _ _ v u Q I rx ry ⟨_, _, rfl, rfl, q _ H (Same.refl H) (rBl _)⟩
  · cases e
theorem o_ge : OpR X (compareOp .GtE) (P2 X.K ge2) := by
  intro pins s sg H x y v u Q I rx ry h
  obtain ⟨G, io, st, u1, u2, u3, ok, r1, r2, e, q⟩ := h
  unfold ge2 at e
  split at e
  · cases e; have e1 := r1.int'; have e2 := r2.int'; subst e1; subst e2
    exact op_ge pins s sg H _ _ v u Q I rx ry ⟨_, _, rfl, rfl, q _ H (Same.refl H) (rBl _)⟩
  · cases e; have e1 := r1.str'; have e2 := r2.str'; subst e1; subst e2
    exact op_ge_str pins s sg H _ _ v u Q I rx ry ⟨_, _, rfl, rfl, q _ H (Same.refl H) (rBl _)⟩
  · cases e
end
end D
namespace D
open PySem L2
/-! ### == and != of data -/
/-- == of two things that are not both tuples or both lists -/
def eqP : U → U → Option Bool
  | .non, .non => some true
  | .non, .bl _ => some false
  | .non, .int _ => some false
  | .non, .str _ => some false
  | .non, .tup _ => some false
  | .non, .lst _ => some false
  | .bl _, .non => some false
  | .bl a1, .bl a2 => some (a1 == a2)
  | .bl a1, .int a2 => some ((if a1 then 1 else 0) == a2)
  | .bl _, .str _ => some false
  | .bl _, .tup _ => some false
  | .bl _, .lst _ => some false
  | .int _, .non => some false
  | .int a1, .bl a2 => some (a1 == (if a2 then 1 else 0))
  | .int a1, .int a2 => some (a1 == a2)
  | .int _, .str _ => some false
  | .int _, .tup _ => some false
  | .int _, .lst _ => some false
  | .str _, .non => some false
  | .str _, .bl _ => some false
  | .str _, .int _ => some false
  | .str a1, .str a2 => some (a1 == a2)
  | .str _, .tup _ => some false
  | .str _, .lst _ => some false
  | .tup _, .non => some false
  | .tup _, .bl _ => some false
  | .tup _, .int _ => some false
  | .tup _, .str _ => some false
  | .tup _, .lst _ => some false
  | .lst _, .non => some false
  | .lst _, .bl _ => some false
  | .lst _, .int _ => some false
  | .lst _, .str _ => some false
  | .lst _, .tup _ => some false
  | _, _ => none
structure Pairs (A : Around) (s : Shared) (f : Bool → Bool) (R : Value → Value → Bool → Prop) : Prop where
  none_none : ∀ (_ : True), R .none .none (f true)
  none_bool : ∀ (a2 : Bool), R .none (.bool a2) (f false)
  none_int : ∀ (a2 : Int) (t2 : Tok), R .none (.int a2 t2) (f false)
  none_str : ∀ (a2 : Str) (t2 : Tok), R .none (.str a2 t2) (f false)
  none_tuple : ∀ (l2 : Addr) (j2 : Array Value) (h2 : s.heap.IsTuple l2 j2), R .none (.ref l2) (f false)
  none_list : ∀ (l2 : Addr) (j2 : Array Value) (h2 : s.heap.IsList l2 j2), R .none (.ref l2) (f false)
  bool_none : ∀ (a1 : Bool), R (.bool a1) .none (f false)
  bool_bool : ∀ (a1 : Bool) (a2 : Bool), R (.bool a1) (.bool a2) (f (a1 == a2))
  bool_int : ∀ (a1 : Bool) (a2 : Int) (t2 : Tok), R (.bool a1) (.int a2 t2) (f ((if a1 then 1 else 0) == a2))
  bool_str : ∀ (a1 : Bool) (a2 : Str) (t2 : Tok), R (.bool a1) (.str a2 t2) (f false)
  bool_tuple : ∀ (a1 : Bool) (l2 : Addr) (j2 : Array Value) (h2 : s.heap.IsTuple l2 j2), R (.bool a1) (.ref l2) (f false)
  bool_list : ∀ (a1 : Bool) (l2 : Addr) (j2 : Array Value) (h2 : s.heap.IsList l2 j2), R (.bool a1) (.ref l2) (f false)
  int_none : ∀ (a1 : Int) (t1 : Tok), R (.int a1 t1) .none (f false)
  int_bool : ∀ (a1 : Int) (t1 : Tok) (a2 : Bool), R (.int a1 t1) (.bool a2) (f (a1 == (if a2 then 1 else 0)))
  int_int : ∀ (a1 : Int) (t1 : Tok) (a2 : Int) (t2 : Tok), R (.int a1 t1) (.int a2 t2) (f (a1 == a2))
  int_str : ∀ (a1 : Int) (t1 : Tok) (a2 : Str) (t2 : Tok), R (.int a1 t1) (.str a2 t2) (f false)
  int_tuple : ∀ (a1 : Int) (t1 : Tok) (l2 : Addr) (j2 : Array Value) (h2 : s.heap.IsTuple l2 j2), R (.int a1 t1) (.ref l2) (f false)
  int_list : ∀ (a1 : Int) (t1 : Tok) (l2 : Addr) (j2 : Array Value) (h2 : s.heap.IsList l2 j2), R (.int a1 t1) (.ref l2) (f false)
  str_none : ∀ (a1 : Str) (t1 : Tok), R (.str a1 t1) .none (f false)
  str_bool : ∀ (a1 : Str) (t1 : Tok) (a2 : Bool), R (.str a1 t1) (.bool a2) (f false)
  str_int : ∀ (a1 : Str) (t1 : Tok) (a2 : Int) (t2 : Tok), R (.str a1 t1) (.int a2 t2) (f false)
  str_str : ∀ (a1 : Str) (t1 : Tok) (a2 : Str) (t2 : Tok), R (.str a1 t1) (.str a2 t2) (f (a1 == a2))
  str_tuple : ∀ (a1 : Str) (t1 : Tok) (l2 : Addr) (j2 : Array Value) (h2 : s.heap.IsTuple l2 j2), R (.str a1 t1) (.ref l2) (f false)
  str_list : ∀ (a1 : Str) (t1 : Tok) (l2 : Addr) (j2 : Array Value) (h2 : s.heap.IsList l2 j2), R (.str a1 t1) (.ref l2) (f false)
  tuple_none : ∀ (l1 : Addr) (j1 : Array Value) (h1 : s.heap.IsTuple l1 j1), R (.ref l1) .none (f false)
  tuple_bool : ∀ (l1 : Addr) (j1 : Array Value) (h1 : s.heap.IsTuple l1 j1) (a2 : Bool), R (.ref l1) (.bool a2) (f false)
  tuple_int : ∀ (l1 : Addr) (j1 : Array Value) (h1 : s.heap.IsTuple l1 j1) (a2 : Int) (t2 : Tok), R (.ref l1) (.int a2 t2) (f false)
  tuple_str : ∀ (l1 : Addr) (j1 : Array Value) (h1 : s.heap.IsTuple l1 j1) (a2 : Str) (t2 : Tok), R (.ref l1) (.str a2 t2) (f false)
  tuple_list : ∀ (l1 : Addr) (j1 : Array Value) (h1 : s.heap.IsTuple l1 j1) (l2 : Addr) (j2 : Array Value) (h2 : s.heap.IsList l2 j2), R (.ref l1) (.ref l2) (f false)
  list_none : ∀ (l1 : Addr) (j1 : Array Value) (h1 : s.heap.IsList l1 j1), R (.ref l1) .none (f false)
  list_bool : ∀ (l1 : Addr) (j1 : Array Value) (h1 : s.heap.IsList l1 j1) (a2 : Bool), R (.ref l1) (.bool a2) (f false)
  list_int : ∀ (l1 : Addr) (j1 : Array Value) (h1 : s.heap.IsList l1 j1) (a2 : Int) (t2 : Tok), R (.ref l1) (.int a2 t2) (f false)
  list_str : ∀ (l1 : Addr) (j1 : Array Value) (h1 : s.heap.IsList l1 j1) (a2 : Str) (t2 : Tok), R (.ref l1) (.str a2 t2) (f false)
  list_tuple : ∀ (l1 : Addr) (j1 : Array Value) (h1 : s.heap.IsList l1 j1) (l2 : Addr) (j2 : Array Value) (h2 : s.heap.IsTuple l2 j2), R (.ref l1) (.ref l2) (f false)
theorem pairs_eq {A : Around} {s : Shared} (hu : A.units < cLine) : Pairs A s id (SeqAt.EqAt A s) where
  none_none := fun _ => SeqAt.EqAt.same _
  none_bool := fun a2 => SeqAt.EqAt.none_bool a2
  none_int := fun a2 t2 => SeqAt.EqAt.none_int a2 t2
  none_str := fun a2 t2 => SeqAt.EqAt.none_str a2 t2
  none_tuple := fun _ _ h2 => SeqAt.EqAt.none_tuple h2 hu
  none_list := fun _ _ h2 => SeqAt.EqAt.none_list h2 hu
  bool_none := fun a1 => SeqAt.EqAt.bool_none a1
  bool_bool := fun a1 a2 => SeqAt.EqAt.bool_bool a1 a2
  bool_int := fun a1 a2 t2 => SeqAt.EqAt.bool_int a1 a2 t2
  bool_str := fun a1 a2 t2 => SeqAt.EqAt.bool_str a1 a2 t2
  bool_tuple := fun a1 _ _ h2 => SeqAt.EqAt.bool_tuple a1 h2 hu
  bool_list := fun a1 _ _ h2 => SeqAt.EqAt.bool_list a1 h2 hu
  int_none := fun a1 t1 => SeqAt.EqAt.int_none a1 t1
  int_bool := fun a1 t1 a2 => SeqAt.EqAt.int_bool a1 t1 a2
  int_int := fun a1 t1 a2 t2 => SeqAt.EqAt.int_int a1 t1 a2 t2
  int_str := fun a1 t1 a2 t2 => SeqAt.EqAt.int_str a1 t1 a2 t2
  int_tuple := fun a1 t1 _ _ h2 => SeqAt.EqAt.int_tuple a1 t1 h2 hu
  int_list := fun a1 t1 _ _ h2 => SeqAt.EqAt.int_list a1 t1 h2 hu
  str_none := fun a1 t1 => SeqAt.EqAt.str_none a1 t1
  str_bool := fun a1 t1 a2 => SeqAt.EqAt.str_bool a1 t1 a2
  str_int := fun a1 t1 a2 t2 => SeqAt.EqAt.str_int a1 t1 a2 t2
  str_str := fun a1 t1 a2 t2 => SeqAt.EqAt.str_str a1 t1 a2 t2
  str_tuple := fun a1 t1 _ _ h2 => SeqAt.EqAt.str_tuple a1 t1 h2 hu
  str_list := fun a1 t1 _ _ h2 => SeqAt.EqAt.str_list a1 t1 h2 hu
  tuple_none := fun _ _ h1 => SeqAt.EqAt.tuple_none h1 hu
  tuple_bool := fun _ _ h1 a2 => SeqAt.EqAt.tuple_bool a2 h1 hu
  tuple_int := fun _ _ h1 a2 t2 => SeqAt.EqAt.tuple_int a2 t2 h1 hu
  tuple_str := fun _ _ h1 a2 t2 => SeqAt.EqAt.tuple_str a2 t2 h1 hu
  tuple_list := fun _ _ h1 _ _ h2 => SeqAt.EqAt.tuple_list h1 h2 hu
  list_none := fun _ _ h1 => SeqAt.EqAt.list_none h1 hu
  list_bool := fun _ _ h1 a2 => SeqAt.EqAt.list_bool a2 h1 hu
  list_int := fun _ _ h1 a2 t2 => SeqAt.EqAt.list_int a2 t2 h1 hu
  list_str := fun _ _ h1 a2 t2 => SeqAt.EqAt.list_str a2 t2 h1 hu
  list_tuple := fun _ _ h1 _ _ h2 => SeqAt.EqAt.list_tuple h1 h2 hu
theorem pairs_rc {A : Around} {s : Shared} (hu : A.units < cLine) : Pairs A s id (SeqAt.RcAt A s) where
  none_none := fun _ => SeqAt.RcAt.none_none
  none_bool := fun a2 => SeqAt.RcAt.none_bool a2
  none_int := fun a2 t2 => SeqAt.RcAt.none_int a2 t2
  none_str := fun a2 t2 => SeqAt.RcAt.none_str a2 t2
  none_tuple := fun _ _ h2 => SeqAt.RcAt.none_tuple h2 hu
  none_list := fun _ _ h2 => SeqAt.RcAt.none_list h2 hu
  bool_none := fun a1 => SeqAt.RcAt.bool_none a1
  bool_bool := fun a1 a2 => SeqAt.RcAt.bool_bool a1 a2
  bool_int := fun a1 a2 t2 => SeqAt.RcAt.bool_int a1 a2 t2
  bool_str := fun a1 a2 t2 => SeqAt.RcAt.bool_str a1 a2 t2
  bool_tuple := fun a1 _ _ h2 => SeqAt.RcAt.bool_tuple a1 h2 hu
  bool_list := fun a1 _ _ h2 => SeqAt.RcAt.bool_list a1 h2 hu
  int_none := fun a1 t1 => SeqAt.RcAt.int_none a1 t1
  int_bool := fun a1 t1 a2 => SeqAt.RcAt.int_bool a1 t1 a2
  int_int := fun a1 t1 a2 t2 => SeqAt.RcAt.int_int a1 t1 a2 t2
  int_str := fun a1 t1 a2 t2 => SeqAt.RcAt.int_str a1 t1 a2 t2
  int_tuple := fun a1 t1 _ _ h2 => SeqAt.RcAt.int_tuple a1 t1 h2 hu
  int_list := fun a1 t1 _ _ h2 => SeqAt.RcAt.int_list a1 t1 h2 hu
  str_none := fun a1 t1 => SeqAt.RcAt.str_none a1 t1
  str_bool := fun a1 t1 a2 => SeqAt.RcAt.str_bool a1 t1 a2
  str_int := fun a1 t1 a2 t2 => SeqAt.RcAt.str_int a1 t1 a2 t2
  str_str := fun a1 t1 a2 t2 => SeqAt.RcAt.str_str a1 t1 a2 t2
  str_tuple := fun a1 t1 _ _ h2 => SeqAt.RcAt.str_tuple a1 t1 h2 hu
  str_list := fun a1 t1 _ _ h2 => SeqAt.RcAt.str_list a1 t1 h2 hu
  tuple_none := fun _ _ h1 => SeqAt.RcAt.tuple_none h1 hu
  tuple_bool := fun _ _ h1 a2 => SeqAt.RcAt.tuple_bool a2 h1 hu
  tuple_int := fun _ _ h1 a2 t2 => SeqAt.RcAt.tuple_int a2 t2 h1 hu
  tuple_str := fun _ _ h1 a2 t2 => SeqAt.RcAt.tuple_str a2 t2 h1 hu
  tuple_list := fun _ _ h1 _ _ h2 => SeqAt.RcAt.tuple_list h1 h2 hu
  list_none := fun _ _ h1 => SeqAt.RcAt.list_none h1 hu
  list_bool := fun _ _ h1 a2 => SeqAt.RcAt.list_bool a2 h1 hu
  list_int := fun _ _ h1 a2 t2 => SeqAt.RcAt.list_int a2 t2 h1 hu
  list_str := fun _ _ h1 a2 t2 => SeqAt.RcAt.list_str a2 t2 h1 hu
  list_tuple := fun _ _ h1 _ _ h2 => SeqAt.RcAt.list_tuple h1 h2 hu
theorem pairs_rn {A : Around} {s : Shared} (hu : A.units < cLine) : Pairs A s Bool.not (SeqAt.RcNeAt A s) where
  none_none := fun _ => SeqAt.RcNeAt.none_none
  none_bool := fun a2 => SeqAt.RcNeAt.none_bool a2
  none_int := fun a2 t2 => SeqAt.RcNeAt.none_int a2 t2
  none_str := fun a2 t2 => SeqAt.RcNeAt.none_str a2 t2
  none_tuple := fun _ _ h2 => SeqAt.RcNeAt.none_tuple h2 hu
  none_list := fun _ _ h2 => SeqAt.RcNeAt.none_list h2 hu
  bool_none := fun a1 => SeqAt.RcNeAt.bool_none a1
  bool_bool := fun a1 a2 => SeqAt.RcNeAt.bool_bool a1 a2
  bool_int := fun a1 a2 t2 => SeqAt.RcNeAt.bool_int a1 a2 t2
  bool_str := fun a1 a2 t2 => SeqAt.RcNeAt.bool_str a1 a2 t2
  bool_tuple := fun a1 _ _ h2 => SeqAt.RcNeAt.bool_tuple a1 h2 hu
  bool_list := fun a1 _ _ h2 => SeqAt.RcNeAt.bool_list a1 h2 hu
  int_none := fun a1 t1 => SeqAt.RcNeAt.int_none a1 t1
  int_bool := fun a1 t1 a2 => SeqAt.RcNeAt.int_bool a1 t1 a2
  int_int := fun a1 t1 a2 t2 => SeqAt.RcNeAt.int_int a1 t1 a2 t2
  int_str := fun a1 t1 a2 t2 => SeqAt.RcNeAt.int_str a1 t1 a2 t2
  int_tuple := fun a1 t1 _ _ h2 => SeqAt.RcNeAt.int_tuple a1 t1 h2 hu
  int_list := fun a1 t1 _ _ h2 => SeqAt.RcNeAt.int_list a1 t1 h2 hu
  str_none := fun a1 t1 => SeqAt.RcNeAt.str_none a1 t1
  str_bool := fun a1 t1 a2 => SeqAt.RcNeAt.str_bool a1 t1 a2
  str_int := fun a1 t1 a2 t2 => SeqAt.RcNeAt.str_int a1 t1 a2 t2
  str_str := fun a1 t1 a2 t2 => SeqAt.RcNeAt.str_str a1 t1 a2 t2
  str_tuple := fun a1 t1 _ _ h2 => SeqAt.RcNeAt.str_tuple a1 t1 h2 hu
  str_list := fun a1 t1 _ _ h2 => SeqAt.RcNeAt.str_list a1 t1 h2 hu
  tuple_none := fun _ _ h1 => SeqAt.RcNeAt.tuple_none h1 hu
  tuple_bool := fun _ _ h1 a2 => SeqAt.RcNeAt.tuple_bool a2 h1 hu
  tuple_int := fun _ _ h1 a2 t2 => SeqAt.RcNeAt.tuple_int a2 t2 h1 hu
  tuple_str := fun _ _ h1 a2 t2 => SeqAt.RcNeAt.tuple_str a2 t2 h1 hu
  tuple_list := fun _ _ h1 _ _ h2 => SeqAt.RcNeAt.tuple_list h1 h2 hu
  list_none := fun _ _ h1 => SeqAt.RcNeAt.list_none h1 hu
  list_bool := fun _ _ h1 a2 => SeqAt.RcNeAt.list_bool a2 h1 hu
  list_int := fun _ _ h1 a2 t2 => SeqAt.RcNeAt.list_int a2 t2 h1 hu
  list_str := fun _ _ h1 a2 t2 => SeqAt.RcNeAt.list_str a2 t2 h1 hu
  list_tuple := fun _ _ h1 _ _ h2 => SeqAt.RcNeAt.list_tuple h1 h2 hu
theorem pairs_at {X : Cx} {pins : List (Addr × Obj)} {sg : L2.St} {H : Hp} {s : Shared} {W : Addr → Prop} {io : List Addr} (I : Inv X pins sg H s) {A : Around} {f : Bool → Bool} {R : Value → Value → Bool → Prop} (P : Pairs A s f R) : ∀ (u1 u2 : U) {x1 x2 : V} {v1 v2 : Value} {b : Bool}, Rep X.K W io H u1 x1 → Rep X.K W io H u2 x2 → RelV x1 v1 → RelV x2 v2 → eqP u1 u2 = some b → R v1 v2 (f b)
  | .non, .non, x1, x2, v1, v2, b, r1, r2, rv1, rv2, e => by
    have e1 := r1.non'; subst e1; have z1 : v1 = Value.none := rv1; subst z1
    have e2 := r2.non'; subst e2; have z2 : v2 = Value.none := rv2; subst z2
    cases e; exact P.none_none trivial
  | .non, .bl a2, x1, x2, v1, v2, b, r1, r2, rv1, rv2, e => by
    have e1 := r1.non'; subst e1; have z1 : v1 = Value.none := rv1; subst z1
    have e2 := r2.bl'; subst e2; have z2 : v2 = Value.bool a2 := rv2; subst z2
    cases e; exact P.none_bool a2
  | .non, .int a2, x1, x2, v1, v2, b, r1, r2, rv1, rv2, e => by
    have e1 := r1.non'; subst e1; have z1 : v1 = Value.none := rv1; subst z1
    have e2 := r2.int'; subst e2; obtain ⟨t2, z2⟩ := rv2; subst z2
    cases e; exact P.none_int a2 t2
  | .non, .str a2, x1, x2, v1, v2, b, r1, r2, rv1, rv2, e => by
    have e1 := r1.non'; subst e1; have z1 : v1 = Value.none := rv1; subst z1
    have e2 := r2.str'; subst e2; obtain ⟨t2, z2⟩ := rv2; subst z2
    cases e; exact P.none_str a2 t2
  | .non, .tup us2, x1, x2, v1, v2, b, r1, r2, rv1, rv2, e => by
    have e1 := r1.non'; subst e1; have z1 : v1 = Value.none := rv1; subst z1
    obtain ⟨l2, vs2, e2, q2, p2⟩ := r2.tup'; subst e2; have z2 : v2 = Value.ref l2 := rv2; subst z2; obtain ⟨its2, w2, h2, _⟩ := I.tuple q2.sq
    cases e; exact P.none_tuple _ _ h2
  | .non, .lst us2, x1, x2, v1, v2, b, r1, r2, rv1, rv2, e => by
    have e1 := r1.non'; subst e1; have z1 : v1 = Value.none := rv1; subst z1
    obtain ⟨l2, vs2, e2, q2, p2⟩ := r2.lst'; subst e2; have z2 : v2 = Value.ref l2 := rv2; subst z2; obtain ⟨its2, w2, g2, _⟩ := I.list q2.sq; have h2 := g2.isList
    cases e; exact P.none_list _ _ h2
  | .bl a1, .non, x1, x2, v1, v2, b, r1, r2, rv1, rv2, e => by
    have e1 := r1.bl'; subst e1; have z1 : v1 = Value.bool a1 := rv1; subst z1
    have e2 := r2.non'; subst e2; have z2 : v2 = Value.none := rv2; subst z2
    cases e; exact P.bool_none a1
  | .bl a1, .bl a2, x1, x2, v1, v2, b, r1, r2, rv1, rv2, e => by
    have e1 := r1.bl'; subst e1; have z1 : v1 = Value.bool a1 := rv1; subst z1
    have e2 := r2.bl'; subst e2; have z2 : v2 = Value.bool a2 := rv2; subst z2
    cases e; exact P.bool_bool a1 a2
  | .bl a1, .int a2, x1, x2, v1, v2, b, r1, r2, rv1, rv2, e => by
    have e1 := r1.bl'; subst e1; have z1 : v1 = Value.bool a1 := rv1; subst z1
    have e2 := r2.int'; subst e2; obtain ⟨t2, z2⟩ := rv2; subst z2
    cases e; exact P.bool_int a1 a2 t2
  | .bl a1, .str a2, x1, x2, v1, v2, b, r1, r2, rv1, rv2, e => by
    have e1 := r1.bl'; subst e1; have z1 : v1 = Value.bool a1 := rv1; subst z1
    have e2 := r2.str'; subst e2; obtain ⟨t2, z2⟩ := rv2; subst z2
    cases e; exact P.bool_str a1 a2 t2
  | .bl a1, .tup us2, x1, x2, v1, v2, b, r1, r2, rv1, rv2, e => by
    have e1 := r1.bl'; subst e1; have z1 : v1 = Value.bool a1 := rv1; subst z1
    obtain ⟨l2, vs2, e2, q2, p2⟩ := r2.tup'; subst e2; have z2 : v2 = Value.ref l2 := rv2; subst z2; obtain ⟨its2, w2, h2, _⟩ := I.tuple q2.sq
    cases e; exact P.bool_tuple a1 _ _ h2
  | .bl a1, .lst us2, x1, x2, v1, v2, b, r1, r2, rv1, rv2, e => by
    have e1 := r1.bl'; subst e1; have z1 : v1 = Value.bool a1 := rv1; subst z1
    obtain ⟨l2, vs2, e2, q2, p2⟩ := r2.lst'; subst e2; have z2 : v2 = Value.ref l2 := rv2; subst z2; obtain ⟨its2, w2, g2, _⟩ := I.list q2.sq; have h2 := g2.isList
    cases e; exact P.bool_list a1 _ _ h2
  | .int a1, .non, x1, x2, v1, v2, b, r1, r2, rv1, rv2, e => by
    have e1 := r1.int'; subst e1; obtain ⟨t1, z1⟩ := rv1; subst z1
    have e2 := r2.non'; subst e2; have z2 : v2 = Value.none := rv2; subst z2
    cases e; exact P.int_none a1 t1
  | .int a1, .bl a2, x1, x2, v1, v2, b, r1, r2, rv1, rv2, e => by
    have e1 := r1.int'; subst e1; obtain ⟨t1, z1⟩ := rv1; subst z1
    have e2 := r2.bl'; subst e2; have z2 : v2 = Value.bool a2 := rv2; subst z2
    cases e; exact P.int_bool a1 t1 a2
  | .int a1, .int a2, x1, x2, v1, v2, b, r1, r2, rv1, rv2, e => by
    have e1 := r1.int'; subst e1; obtain ⟨t1, z1⟩ := rv1; subst z1
    have e2 := r2.int'; subst e2; obtain ⟨t2, z2⟩ := rv2; subst z2
    cases e; exact P.int_int a1 t1 a2 t2
  | .int a1, .str a2, x1, x2, v1, v2, b, r1, r2, rv1, rv2, e => by
    have e1 := r1.int'; subst e1; obtain ⟨t1, z1⟩ := rv1; subst z1
    have e2 := r2.str'; subst e2; obtain ⟨t2, z2⟩ := rv2; subst z2
    cases e; exact P.int_str a1 t1 a2 t2
  | .int a1, .tup us2, x1, x2, v1, v2, b, r1, r2, rv1, rv2, e => by
    have e1 := r1.int'; subst e1; obtain ⟨t1, z1⟩ := rv1; subst z1
    obtain ⟨l2, vs2, e2, q2, p2⟩ := r2.tup'; subst e2; have z2 : v2 = Value.ref l2 := rv2; subst z2; obtain ⟨its2, w2, h2, _⟩ := I.tuple q2.sq
    cases e; exact P.int_tuple a1 t1 _ _ h2
  | .int a1, .lst us2, x1, x2, v1, v2, b, r1, r2, rv1, rv2, e => by
    have e1 := r1.int'; subst e1; obtain ⟨t1, z1⟩ := rv1; subst z1
    obtain ⟨l2, vs2, e2, q2, p2⟩ := r2.lst'; subst e2; have z2 : v2 = Value.ref l2 := rv2; subst z2; obtain ⟨its2, w2, g2, _⟩ := I.list q2.sq; have h2 := g2.isList
    cases e; exact P.int_list a1 t1 _ _ h2
  | .str a1, .non, x1, x2, v1, v2, b, r1, r2, rv1, rv2, e => by
    have e1 := r1.str'; subst e1; obtain ⟨t1, z1⟩ := rv1; subst z1
    have e2 := r2.non'; subst e2; have z2 : v2 = Value.none := rv2; subst z2
    cases e; exact P.str_none a1 t1
  | .str a1, .bl a2, x1, x2, v1, v2, b, r1, r2, rv1, rv2, e => by
    have e1 := r1.str'; subst e1; obtain ⟨t1, z1⟩ := rv1; subst z1
    have e2 := r2.bl'; subst e2; have z2 : v2 = Value.bool a2 := rv2; subst z2
    cases e; exact P.str_bool a1 t1 a2
  | .str a1, .int a2, x1, x2, v1, v2, b, r1, r2, rv1, rv2, e => by
    have e1 := r1.str'; subst e1; obtain ⟨t1, z1⟩ := rv1; subst z1
    have e2 := r2.int'; subst e2; obtain ⟨t2, z2⟩ := rv2; subst z2
    cases e; exact P.str_int a1 t1 a2 t2
  | .str a1, .str a2, x1, x2, v1, v2, b, r1, r2, rv1, rv2, e => by
    have e1 := r1.str'; subst e1; obtain ⟨t1, z1⟩ := rv1; subst z1
    have e2 := r2.str'; subst e2; obtain ⟨t2, z2⟩ := rv2; subst z2
    cases e; exact P.str_str a1 t1 a2 t2
  | .str a1, .tup us2, x1, x2, v1, v2, b, r1, r2, rv1, rv2, e => by
    have e1 := r1.str'; subst e1; obtain ⟨t1, z1⟩ := rv1; subst z1
    obtain ⟨l2, vs2, e2, q2, p2⟩ := r2.tup'; subst e2; have z2 : v2 = Value.ref l2 := rv2; subst z2; obtain ⟨its2, w2, h2, _⟩ := I.tuple q2.sq
    cases e; exact P.str_tuple a1 t1 _ _ h2
  | .str a1, .lst us2, x1, x2, v1, v2, b, r1, r2, rv1, rv2, e => by
    have e1 := r1.str'; subst e1; obtain ⟨t1, z1⟩ := rv1; subst z1
    obtain ⟨l2, vs2, e2, q2, p2⟩ := r2.lst'; subst e2; have z2 : v2 = Value.ref l2 := rv2; subst z2; obtain ⟨its2, w2, g2, _⟩ := I.list q2.sq; have h2 := g2.isList
    cases e; exact P.str_list a1 t1 _ _ h2
  | .tup us1, .non, x1, x2, v1, v2, b, r1, r2, rv1, rv2, e => by
    obtain ⟨l1, vs1, e1, q1, p1⟩ := r1.tup'; subst e1; have z1 : v1 = Value.ref l1 := rv1; subst z1; obtain ⟨its1, w1, h1, _⟩ := I.tuple q1.sq
    have e2 := r2.non'; subst e2; have z2 : v2 = Value.none := rv2; subst z2
    cases e; exact P.tuple_none _ _ h1
  | .tup us1, .bl a2, x1, x2, v1, v2, b, r1, r2, rv1, rv2, e => by
    obtain ⟨l1, vs1, e1, q1, p1⟩ := r1.tup'; subst e1; have z1 : v1 = Value.ref l1 := rv1; subst z1; obtain ⟨its1, w1, h1, _⟩ := I.tuple q1.sq
    have e2 := r2.bl'; subst e2; have z2 : v2 = Value.bool a2 := rv2; subst z2
    cases e; exact P.tuple_bool _ _ h1 a2
  | .tup us1, .int a2, x1, x2, v1, v2, b, r1, r2, rv1, rv2, e => by
    obtain ⟨l1, vs1, e1, q1, p1⟩ := r1.tup'; subst e1; have z1 : v1 = Value.ref l1 := rv1; subst z1; obtain ⟨its1, w1, h1, _⟩ := I.tuple q1.sq
    have e2 := r2.int'; subst e2; obtain ⟨t2, z2⟩ := rv2; subst z2
    cases e; exact P.tuple_int _ _ h1 a2 t2
  | .tup us1, .str a2, x1, x2, v1, v2, b, r1, r2, rv1, rv2, e => by
    obtain ⟨l1, vs1, e1, q1, p1⟩ := r1.tup'; subst e1; have z1 : v1 = Value.ref l1 := rv1; subst z1; obtain ⟨its1, w1, h1, _⟩ := I.tuple q1.sq
    have e2 := r2.str'; subst e2; obtain ⟨t2, z2⟩ := rv2; subst z2
    cases e; exact P.tuple_str _ _ h1 a2 t2
  | .tup us1, .lst us2, x1, x2, v1, v2, b, r1, r2, rv1, rv2, e => by
    obtain ⟨l1, vs1, e1, q1, p1⟩ := r1.tup'; subst e1; have z1 : v1 = Value.ref l1 := rv1; subst z1; obtain ⟨its1, w1, h1, _⟩ := I.tuple q1.sq
    obtain ⟨l2, vs2, e2, q2, p2⟩ := r2.lst'; subst e2; have z2 : v2 = Value.ref l2 := rv2; subst z2; obtain ⟨its2, w2, g2, _⟩ := I.list q2.sq; have h2 := g2.isList
    cases e; exact P.tuple_list _ _ h1 _ _ h2
  | .lst us1, .non, x1, x2, v1, v2, b, r1, r2, rv1, rv2, e => by
    obtain ⟨l1, vs1, e1, q1, p1⟩ := r1.lst'; subst e1; have z1 : v1 = Value.ref l1 := rv1; subst z1; obtain ⟨its1, w1, g1, _⟩ := I.list q1.sq; have h1 := g1.isList
    have e2 := r2.non'; subst e2; have z2 : v2 = Value.none := rv2; subst z2
    cases e; exact P.list_none _ _ h1
  | .lst us1, .bl a2, x1, x2, v1, v2, b, r1, r2, rv1, rv2, e => by
    obtain ⟨l1, vs1, e1, q1, p1⟩ := r1.lst'; subst e1; have z1 : v1 = Value.ref l1 := rv1; subst z1; obtain ⟨its1, w1, g1, _⟩ := I.list q1.sq; have h1 := g1.isList
    have e2 := r2.bl'; subst e2; have z2 : v2 = Value.bool a2 := rv2; subst z2
    cases e; exact P.list_bool _ _ h1 a2
  | .lst us1, .int a2, x1, x2, v1, v2, b, r1, r2, rv1, rv2, e => by
    obtain ⟨l1, vs1, e1, q1, p1⟩ := r1.lst'; subst e1; have z1 : v1 = Value.ref l1 := rv1; subst z1; obtain ⟨its1, w1, g1, _⟩ := I.list q1.sq; have h1 := g1.isList
    have e2 := r2.int'; subst e2; obtain ⟨t2, z2⟩ := rv2; subst z2
    cases e; exact P.list_int _ _ h1 a2 t2
  | .lst us1, .str a2, x1, x2, v1, v2, b, r1, r2, rv1, rv2, e => by
    obtain ⟨l1, vs1, e1, q1, p1⟩ := r1.lst'; subst e1; have z1 : v1 = Value.ref l1 := rv1; subst z1; obtain ⟨its1, w1, g1, _⟩ := I.list q1.sq; have h1 := g1.isList
    have e2 := r2.str'; subst e2; obtain ⟨t2, z2⟩ := rv2; subst z2
    cases e; exact P.list_str _ _ h1 a2 t2
  | .lst us1, .tup us2, x1, x2, v1, v2, b, r1, r2, rv1, rv2, e => by
    obtain ⟨l1, vs1, e1, q1, p1⟩ := r1.lst'; subst e1; have z1 : v1 = Value.ref l1 := rv1; subst z1; obtain ⟨its1, w1, g1, _⟩ := I.list q1.sq; have h1 := g1.isList
    obtain ⟨l2, vs2, e2, q2, p2⟩ := r2.tup'; subst e2; have z2 : v2 = Value.ref l2 := rv2; subst z2; obtain ⟨its2, w2, h2, _⟩ := I.tuple q2.sq
    cases e; exact P.list_tuple _ _ h1 _ _ h2
  | .tup us1, .tup us2, _, _, _, _, _, _, _, _, _, h => nomatch h
  | .lst us1, .lst us2, _, _, _, _, _, _, _, _, _, h => nomatch h
  | .dct _ _, u2, _, _, _, _, _, _, _, _, _, h => by cases u2 <;> cases h
  | .non, .dct _ _, _, _, _, _, _, _, _, _, _, h => nomatch h
  | .bl _, .dct _ _, _, _, _, _, _, _, _, _, _, h => nomatch h
  | .int _, .dct _ _, _, _, _, _, _, _, _, _, _, h => nomatch h
  | .str _, .dct _ _, _, _, _, _, _, _, _, _, _, h => nomatch h
  | .tup _, .dct _ _, _, _, _, _, _, _, _, _, _, h => nomatch h
  | .lst _, .dct _ _, _, _, _, _, _, _, _, _, _, h => nomatch h
  | .ref _, u2, _, _, _, _, _, _, _, _, _, h => by cases u2 <;> cases h
  | .non, .ref _, _, _, _, _, _, _, _, _, _, h => nomatch h
  | .bl _, .ref _, _, _, _, _, _, _, _, _, _, h => nomatch h
  | .int _, .ref _, _, _, _, _, _, _, _, _, _, h => nomatch h
  | .str _, .ref _, _, _, _, _, _, _, _, _, _, h => nomatch h
  | .tup _, .ref _, _, _, _, _, _, _, _, _, _, h => nomatch h
  | .lst _, .ref _, _, _, _, _, _, _, _, _, _, h => nomatch h
  | .ty _, u2, _, _, _, _, _, _, _, _, _, h => by cases u2 <;> cases h
  | .non, .ty _, _, _, _, _, _, _, _, _, _, h => nomatch h
  | .bl _, .ty _, _, _, _, _, _, _, _, _, _, h => nomatch h
  | .int _, .ty _, _, _, _, _, _, _, _, _, _, h => nomatch h
  | .str _, .ty _, _, _, _, _, _, _, _, _, _, h => nomatch h
  | .tup _, .ty _, _, _, _, _, _, _, _, _, _, h => nomatch h
  | .lst _, .ty _, _, _, _, _, _, _, _, _, _, h => nomatch h
  | .scr _, u2, _, _, _, _, _, _, _, _, _, h => by cases u2 <;> cases h
  | .non, .scr _, _, _, _, _, _, _, _, _, _, h => nomatch h
  | .bl _, .scr _, _, _, _, _, _, _, _, _, _, h => nomatch h
  | .int _, .scr _, _, _, _, _, _, _, _, _, _, h => nomatch h
  | .str _, .scr _, _, _, _, _, _, _, _, _, _, h => nomatch h
  | .tup _, .scr _, _, _, _, _, _, _, _, _, _, h => nomatch h
  | .lst _, .scr _, _, _, _, _, _, _, _, _, _, h => nomatch h

def eqZ (f : U → U → Option Bool) : List U → List U → Option Bool
  | u :: us, v :: vs => match f u v, eqZ f us vs with
    | some a, some b => some (a && b)
    | _, _ => none
  | _, _ => some true
def eqF : Nat → U → U → Option Bool
  | 0, _, _ => none
  | n + 1, .tup us, .tup vs => (eqZ (eqF n) us vs).map (fun b => b && decide (us.length = vs.length))
  | n + 1, .lst us, .lst vs => if us.length = vs.length then eqZ (eqF n) us vs else some false
  | _ + 1, u, v => eqP u v
theorem eqZ_get {f : U → U → Option Bool} : ∀ {us vs : List U} {b : Bool}, eqZ f us vs = some b → ∀ (j : Nat) (u v : U), us[j]? = some u → vs[j]? = some v → ∃ c, f u v = some c ∧ (b = true → c = true)
  | [], _, _, _, _, _, _, e, _ => by simp at e
  | _ :: _, [], _, _, _, _, _, _, e => by simp at e
  | u :: us, v :: vs, b, h, j, u', v', e1, e2 => by
    unfold eqZ at h
    split at h
    · rename_i a c ha hc
      cases h
      cases j with
      | zero =>
        simp at e1 e2; subst e1; subst e2
        exact ⟨a, ha, fun z => (Bool.and_eq_true_iff.mp z).1⟩
      | succ j =>
        obtain ⟨d, h1, h2⟩ := eqZ_get hc j u' v' (by simpa using e1) (by simpa using e2)
        exact ⟨d, h1, fun z => h2 (Bool.and_eq_true_iff.mp z).2⟩
    · cases h
theorem eqZ_all {f : U → U → Option Bool} : ∀ {us vs : List U} {b : Bool}, eqZ f us vs = some b → (∀ (j : Nat) (u v : U), us[j]? = some u → vs[j]? = some v → f u v = some true) → b = true
  | [], _, _, h, _ => by unfold eqZ at h; cases h; rfl
  | _ :: _, [], _, h, _ => by unfold eqZ at h; cases h; rfl
  | u :: us, v :: vs, b, h, k => by
    unfold eqZ at h
    split at h
    · rename_i a c ha hc
      cases h
      have h1 := k 0 u v rfl rfl
      rw [ha] at h1; cases h1
      have h2 := eqZ_all hc fun j u' v' e1 e2 => k (j + 1) u' v' (by simpa using e1) (by simpa using e2)
      subst h2; rfl
    · cases h
theorem eqF_mix (n : Nat) (u w : U) (h1 : ¬ ∃ us vs, u = .tup us ∧ w = .tup vs) (h2 : ¬ ∃ us vs, u = .lst us ∧ w = .lst vs) : eqF (n + 1) u w = eqP u w := by
  unfold eqF
  split
  · rename_i h; cases h
  · exact (h1 ⟨_, _, rfl, rfl⟩).elim
  · exact (h2 ⟨_, _, rfl, rfl⟩).elim
  · rfl
section
variable {X : Cx} {pins : List (Addr × Obj)} {sg : L2.St} {H : Hp} {s : Shared} {W : Addr → Prop} {io : List Addr}
theorem eqP_same (I : Inv X pins sg H s) : ∀ (u w : U) {x : V} {b : Bool}, Rep X.K W io H u x → Rep X.K W io H w x → eqP u w = some b → b = true := by
  intro u w x b r1 r2 e
  cases u with
  | non =>
    have e1 := r1.non'; subst e1
    cases w <;> first | (cases e; rfl) | cases e
    · cases r2.bl'
    · cases r2.int'
    · cases r2.str'
    · obtain ⟨_, _, z, _⟩ := r2.tup'; cases z
    · obtain ⟨_, _, z, _⟩ := r2.lst'; cases z
  | bl c =>
    have e1 := r1.bl'; subst e1
    cases w with
    | bl d => cases r2.bl'; cases e; simp
    | non => cases r2.non'
    | int i => cases r2.int'
    | str i => cases r2.str'
    | tup us => obtain ⟨_, _, z, _⟩ := r2.tup'; cases z
    | lst us => obtain ⟨_, _, z, _⟩ := r2.lst'; cases z
    | _ => cases e
  | int c =>
    have e1 := r1.int'; subst e1
    cases w with
    | int d => cases r2.int'; cases e; simp
    | non => cases r2.non'
    | bl i => cases r2.bl'
    | str i => cases r2.str'
    | tup us => obtain ⟨_, _, z, _⟩ := r2.tup'; cases z
    | lst us => obtain ⟨_, _, z, _⟩ := r2.lst'; cases z
    | _ => cases e
  | str c =>
    have e1 := r1.str'; subst e1
    cases w with
    | str d => cases r2.str'; cases e; simp
    | non => cases r2.non'
    | bl i => cases r2.bl'
    | int i => cases r2.int'
    | tup us => obtain ⟨_, _, z, _⟩ := r2.tup'; cases z
    | lst us => obtain ⟨_, _, z, _⟩ := r2.lst'; cases z
    | _ => cases e
  | tup us =>
    obtain ⟨a, vs, e1, l, _⟩ := r1.tup'; subst e1
    cases w with
    | non => cases r2.non'
    | bl i => cases r2.bl'
    | int i => cases r2.int'
    | str i => cases r2.str'
    | lst us =>
      obtain ⟨_, _, z, l2, _⟩ := r2.lst'; cases z
      obtain ⟨_, _, h1, _⟩ := I.tuple l.sq
      obtain ⟨_, _, h2, _⟩ := I.list l2.sq
      exact (SeqAt.ne_of_list_tuple h2.isList h1 rfl).elim
    | _ => cases e
  | lst us =>
    obtain ⟨a, vs, e1, l, _⟩ := r1.lst'; subst e1
    cases w with
    | non => cases r2.non'
    | bl i => cases r2.bl'
    | int i => cases r2.int'
    | str i => cases r2.str'
    | tup us =>
      obtain ⟨_, _, z, l2, _⟩ := r2.tup'; cases z
      obtain ⟨_, _, h1, _⟩ := I.tuple l2.sq
      obtain ⟨_, _, h2, _⟩ := I.list l.sq
      exact (SeqAt.ne_of_list_tuple h2.isList h1 rfl).elim
    | _ => cases e
  | _ => cases w <;> cases e
theorem eqZ_same {f : U → U → Option Bool} {us ws : List U} {vs : List V} {b : Bool} (r1 : Reps X.K W io H us vs) (r2 : Reps X.K W io H ws vs) (ih : ∀ (u w : U) (x : V) (b : Bool), Rep X.K W io H u x → Rep X.K W io H w x → f u w = some b → b = true) (h : eqZ f us ws = some b) : b = true := by
  refine eqZ_all h fun j u v e1 e2 => ?_
  obtain ⟨c, h1, _⟩ := eqZ_get h j u v e1 e2
  obtain ⟨x, g1, p1⟩ := r1.get e1
  obtain ⟨y, g2, p2⟩ := r2.get e2
  rw [g1] at g2; cases g2
  rw [h1, ih u v x c p1 p2 h1]
theorem eqF_same (I : Inv X pins sg H s) : ∀ (n : Nat) (u w : U) (x : V) (b : Bool), Rep X.K W io H u x → Rep X.K W io H w x → eqF n u w = some b → b = true
  | 0, _, _, _, _, _, _, h => by unfold eqF at h; cases h
  | n + 1, u, w, x, b, r1, r2, h => by
    by_cases h1 : ∃ us vs, u = .tup us ∧ w = .tup vs
    · obtain ⟨us, ws, rfl, rfl⟩ := h1
      obtain ⟨a, vs, e1, l, p1⟩ := r1.tup'; subst e1
      obtain ⟨_, _, z, l2, p2⟩ := r2.tup'; cases z
      have e := I.tuple_inj l.sq l2.sq; subst e
      unfold eqF at h
      cases q : eqZ (eqF n) us ws with
      | none => rw [q] at h; cases h
      | some c =>
        rw [q] at h; cases h
        rw [eqZ_same p1 p2 (fun u w x b => eqF_same I n u w x b) q, p1.length, p2.length]
        simp
    · by_cases h2 : ∃ us vs, u = .lst us ∧ w = .lst vs
      · obtain ⟨us, ws, rfl, rfl⟩ := h2
        obtain ⟨a, vs, e1, l, p1⟩ := r1.lst'; subst e1
        obtain ⟨_, _, z, l2, p2⟩ := r2.lst'; cases z
        have e := I.list_inj l.sq l2.sq; subst e
        unfold eqF at h
        rw [if_pos (by rw [p1.length, p2.length])] at h
        exact eqZ_same p1 p2 (fun u w x b => eqF_same I n u w x b) h
      · rw [eqF_mix n u w h1 h2] at h
        exact eqP_same I u w r1 r2 h
def eT (f : U → U → Option Bool) (us ws : List U) (j : Nat) : Bool := decide (f (us.getD j .non) (ws.getD j .non) = some true)
theorem eT_get {f : U → U → Option Bool} {us ws : List U} {j : Nat} {u w : U} {b : Bool} (h1 : us[j]? = some u) (h2 : ws[j]? = some w) (h : f u w = some b) : eT f us ws j = b := by
  unfold eT
  rw [List.getD_eq_getElem?_getD, List.getD_eq_getElem?_getD, h1, h2, Option.getD_some, Option.getD_some, h]
  cases b <;> simp
theorem eT_all {f : U → U → Option Bool} : ∀ {us ws : List U} {b : Bool}, eqZ f us ws = some b → (List.range (min us.length ws.length)).all (eT f us ws) = b
  | us, ws, b, h => by
    cases b with
    | true =>
      rw [List.all_eq_true]
      intro j hj
      have hj := List.mem_range.mp hj
      have l1 : j < us.length := by omega
      have l2 : j < ws.length := by omega
      obtain ⟨c, h1, h2⟩ := eqZ_get h j us[j] ws[j] (List.getElem?_eq_getElem l1) (List.getElem?_eq_getElem l2)
      rw [eT_get (List.getElem?_eq_getElem l1) (List.getElem?_eq_getElem l2) h1, h2 rfl]
    | false =>
      cases q : (List.range (min us.length ws.length)).all (eT f us ws) with
      | false => rfl
      | true =>
        rw [List.all_eq_true] at q
        exact absurd (eqZ_all h fun j u v e1 e2 => by
          obtain ⟨c, h1, _⟩ := eqZ_get h j u v e1 e2
          have := q j (List.mem_range.mpr (by have := (List.getElem?_eq_some_iff.mp e1).1; have := (List.getElem?_eq_some_iff.mp e2).1; omega))
          rw [eT_get e1 e2 h1] at this
          rw [h1, this]) (by decide)
theorem items_at {f : U → U → Option Bool} {A : Around} {us ws : List U} {vs xs : List V} {its jts : List Value} {b : Bool} (r1 : Reps X.K W io H us vs) (r2 : Reps X.K W io H ws xs) (v1 : Vals vs its) (v2 : Vals xs jts)
    (ih : ∀ (u w : U) (x y : V) (v v' : Value) (b : Bool), Rep X.K W io H u x → Rep X.K W io H w y → RelV x v → RelV y v' → f u w = some b → SeqAt.EqAt A s v v' b) (h : eqZ f us ws = some b) :
    ∀ j (h1 : j < its.toArray.size) (h2 : j < jts.toArray.size), SeqAt.EqAt A s its.toArray[j] jts.toArray[j] (eT f us ws j) := by
  intro j h1 h2
  have l1 : j < its.length := by simpa using h1
  have l2 : j < jts.length := by simpa using h2
  have k1 : j < us.length := by rw [r1.length, v1.length]; exact l1
  have k2 : j < ws.length := by rw [r2.length, v2.length]; exact l2
  obtain ⟨c, q1, _⟩ := eqZ_get h j us[j] ws[j] (List.getElem?_eq_getElem k1) (List.getElem?_eq_getElem k2)
  obtain ⟨x, g1, p1⟩ := r1.get (List.getElem?_eq_getElem k1)
  obtain ⟨y, g2, p2⟩ := r2.get (List.getElem?_eq_getElem k2)
  obtain ⟨v, m1, n1⟩ := v1.get g1
  obtain ⟨v', m2, n2⟩ := v2.get g2
  rw [eT_get (List.getElem?_eq_getElem k1) (List.getElem?_eq_getElem k2) q1]
  have a1 : its.toArray[j] = v := by
    have := List.getElem?_eq_getElem l1
    rw [m1] at this
    simpa using (Option.some.inj this).symm
  have a2 : jts.toArray[j] = v' := by
    have := List.getElem?_eq_getElem l2
    rw [m2] at this
    simpa using (Option.some.inj this).symm
  rw [a1, a2]
  exact ih _ _ x y v v' c p1 p2 n1 n2 q1
/-- the seqs' part, for == and for != -/
structure Seqs (A : Around) (s : Shared) (f : Bool → Bool) (R : Value → Value → Bool → Prop) : Prop where
  tuples : ∀ {l b : Addr} {items items2 : Array Value} {e : Nat → Bool}, s.heap.IsTuple l items → s.heap.IsTuple b items2 → (∀ j (h1 : j < items.size) (h2 : j < items2.size), SeqAt.EqAt A.in1 s items[j] items2[j] (e j)) → R (.ref l) (.ref b) (f ((List.range (min items.size items2.size)).all e && items.size == items2.size))
  lists : ∀ {l b : Addr} {items items2 : Array Value} {e : Nat → Bool}, s.heap.IsList l items → s.heap.IsList b items2 → items.size = items2.size → (∀ j (h1 : j < items.size) (h2 : j < items2.size), SeqAt.EqAt A.in1 s items[j] items2[j] (e j)) → R (.ref l) (.ref b) (f ((List.range items.size).all e))
  lengths : ∀ {l b : Addr} {items items2 : Array Value}, s.heap.IsList l items → s.heap.IsList b items2 → (items.size != items2.size) = true → R (.ref l) (.ref b) (f false)
theorem seqs_rc {A : Around} (hu : A.units < cLine) : Seqs A s id (SeqAt.RcAt A s) := ⟨fun h1 h2 h => SeqAt.RcAt.tuples h1 h2 hu h, fun h1 h2 hz h => SeqAt.RcAt.lists h1 h2 hz hu h, fun h1 h2 hz => SeqAt.RcAt.lists_lengths h1 h2 hz hu⟩
theorem seqs_rn {A : Around} (hu : A.units < cLine) : Seqs A s Bool.not (SeqAt.RcNeAt A s) := ⟨fun h1 h2 h => SeqAt.RcNeAt.tuples h1 h2 hu h, fun h1 h2 hz h => SeqAt.RcNeAt.lists h1 h2 hz hu h, fun h1 h2 hz => SeqAt.RcNeAt.lists_lengths h1 h2 hz hu⟩
theorem eqF_step (I : Inv X pins sg H s) {n : Nat} {A : Around} {f : Bool → Bool} {R : Value → Value → Bool → Prop} (P : Pairs A s f R) (S : Seqs A s f R)
    (ih : ∀ (u w : U) (x y : V) (v v' : Value) (b : Bool), Rep X.K W io H u x → Rep X.K W io H w y → RelV x v → RelV y v' → eqF n u w = some b → SeqAt.EqAt A.in1 s v v' b)
    {u w : U} {x y : V} {v v' : Value} {b : Bool} (r1 : Rep X.K W io H u x) (r2 : Rep X.K W io H w y) (rv1 : RelV x v) (rv2 : RelV y v') (h : eqF (n + 1) u w = some b) : R v v' (f b) := by
  by_cases h1 : ∃ us vs, u = .tup us ∧ w = .tup vs
  · obtain ⟨us, ws, rfl, rfl⟩ := h1
    obtain ⟨a, vs, e1, l, p1⟩ := r1.tup'; subst e1
    obtain ⟨a', xs, e2, l2, p2⟩ := r2.tup'; subst e2
    cases (show v = Value.ref a from rv1)
    cases (show v' = Value.ref a' from rv2)
    obtain ⟨its, w1, t1, _⟩ := I.tuple l.sq
    obtain ⟨jts, w2, t2, _⟩ := I.tuple l2.sq
    unfold eqF at h
    cases q : eqZ (eqF n) us ws with
    | none => rw [q] at h; cases h
    | some c =>
      rw [q] at h; cases h
      have := S.tuples (e := eT (eqF n) us ws) t1 t2 (items_at p1 p2 w1 w2 ih q)
      rw [List.size_toArray, List.size_toArray, ← w1.length, ← w2.length, ← p1.length, ← p2.length, eT_all q] at this
      have e : (us.length == ws.length) = decide (us.length = ws.length) := by
        by_cases z : us.length = ws.length <;> simp [z]
      rw [e] at this
      exact this
  · by_cases h2 : ∃ us vs, u = .lst us ∧ w = .lst vs
    · obtain ⟨us, ws, rfl, rfl⟩ := h2
      obtain ⟨a, vs, e1, l, p1⟩ := r1.lst'; subst e1
      obtain ⟨a', xs, e2, l2, p2⟩ := r2.lst'; subst e2
      cases (show v = Value.ref a from rv1)
      cases (show v' = Value.ref a' from rv2)
      obtain ⟨its, w1, t1, _⟩ := I.list l.sq
      obtain ⟨jts, w2, t2, _⟩ := I.list l2.sq
      have z1 : its.toArray.size = us.length := by rw [List.size_toArray, ← w1.length, ← p1.length]
      have z2 : jts.toArray.size = ws.length := by rw [List.size_toArray, ← w2.length, ← p2.length]
      unfold eqF at h
      split at h
      · rename_i hz
        have := S.lists (e := eT (eqF n) us ws) t1.isList t2.isList (by rw [z1, z2, hz]) (items_at p1 p2 w1 w2 ih h)
        rw [z1] at this
        have e := eT_all h
        rw [← hz, Nat.min_self] at e
        rw [e] at this
        exact this
      · rename_i hz
        cases h
        exact S.lengths t1.isList t2.isList (by rw [z1, z2]; simpa using hz)
    · rw [eqF_mix n u w h1 h2] at h
      exact pairs_at I P u w r1 r2 rv1 rv2 h
theorem eqF_at (I : Inv X pins sg H s) : ∀ (n : Nat) (A : Around), A.units + n < cLine → ∀ (u w : U) (x y : V) (v v' : Value) (b : Bool), Rep X.K W io H u x → Rep X.K W io H w y → RelV x v → RelV y v' → eqF n u w = some b → SeqAt.EqAt A s v v' b
  | 0, _, _, _, _, _, _, _, _, _, _, _, _, _, h => by unfold eqF at h; cases h
  | n + 1, A, hu, u, w, x, y, v, v', b, r1, r2, rv1, rv2, h => by
    have ih := eqF_at I n A.in1 (by show A.units + 1 + n < cLine; omega)
    by_cases hx : (∃ a c, x = .ref a ∧ y = .ref c)
    · obtain ⟨a, c, rfl, rfl⟩ := hx
      cases (show v = Value.ref a from rv1)
      cases (show v' = Value.ref c from rv2)
      by_cases e : a = c
      · subst e
        rw [eqF_same I (n + 1) u w (.ref a) b r1 r2 h]
        exact SeqAt.EqAt.same _
      · exact SeqAt.EqAt.of_refs e (eqF_step I (pairs_rc (by omega)) (seqs_rc (by omega)) ih r1 r2 rv1 rv2 h)
    · rw [eqF_mix n u w (fun ⟨us, vs, e1, e2⟩ => hx (by
        subst e1; subst e2
        obtain ⟨a, _, z1, _⟩ := r1.tup'
        obtain ⟨c, _, z2, _⟩ := r2.tup'
        exact ⟨a, c, z1, z2⟩)) (fun ⟨us, vs, e1, e2⟩ => hx (by
        subst e1; subst e2
        obtain ⟨a, _, z1, _⟩ := r1.lst'
        obtain ⟨c, _, z2, _⟩ := r2.lst'
        exact ⟨a, c, z1, z2⟩))] at h
      exact pairs_at I (pairs_eq (by omega)) u w r1 r2 rv1 rv2 h
end
def eq2 (u v : U) : Option U := (eqF 60 u v).map U.bl
def ne2 (u v : U) : Option U := (eqF 60 u v).map fun b => U.bl (!b)
section
variable {X : Cx}
theorem o_eq (hu : X.A.units + 64 < cLine) : OpR X (compareOp .Eq) (P2 X.K eq2) := by
  intro pins s sg H x y v u Q I rx ry h
  obtain ⟨G, io, st, u1, u2, u3, ok, r1, r2, e, q⟩ := h
  unfold eq2 at e
  cases z : eqF 60 u1 u2 with
  | none => rw [z] at e; cases e
  | some b =>
    rw [z] at e; cases e
    exact eqF_step (n := 59) I (pairs_rc (by omega)) (seqs_rc (by omega)) (eqF_at I 59 X.A.in1 (by show X.A.units + 1 + 59 < cLine; omega)) r1 r2 rx ry z _ _ _ _ ⟨.bl b, H, I, rfl, q _ H (Same.refl H) (rBl _)⟩
theorem o_ne (hu : X.A.units + 64 < cLine) : OpR X (compareOp .NotEq) (P2 X.K ne2) := by
  intro pins s sg H x y v u Q I rx ry h
  obtain ⟨G, io, st, u1, u2, u3, ok, r1, r2, e, q⟩ := h
  unfold ne2 at e
  cases z : eqF 60 u1 u2 with
  | none => rw [z] at e; cases e
  | some b =>
    rw [z] at e; cases e
    exact eqF_step (n := 59) I (pairs_rn (by omega)) (seqs_rn (by omega)) (eqF_at I 59 X.A.in1 (by show X.A.units + 1 + 59 < cLine; omega)) r1 r2 rx ry z _ _ _ _ ⟨.bl (!b), H, I, rfl, q _ H (Same.refl H) (rBl _)⟩
end
end D
/-! DP: a text is no dict: == of a text and a dict -/
namespace D
open PySem L2
open AutoSeq1 (wpAny_loadPart')
theorem str_eq_declines_dict (b : Str) (u : Tok) (l : Addr) (c : Value) (es : Array DictEntry) (n : Nat) (dd : Option Addr) (sl : Array (Option Value)) :
    Meets (Builtin.«str.__eq__» ⟨[.str b u, .ref l], []⟩) (fun _ R s => s.heap.get? l = some { cls := c, dict := dd, data := .dict es n, slots := sl } ∧ R (.ok (.ret .notImplemented)) s) :=
  .of_wp fun prog w A R s h => by obtain ⟨hp, g, d, tk, os⟩ := s; obtain ⟨hl, h⟩ := h; wp_walk using wpAny_loadPart' hl, wpAny_load hl; exact ⟨_, rfl, h⟩
theorem dict_eq_declines_str {prog : Program} {w : World} {A : Around} {E : Value → Shared → Prop} {s : Shared} (b : Str) (u : Tok) (l : Addr) (hT : s.TypeIs (.ref l) "dict") (Q : Value → Shared → Prop) (h : Q .notImplemented s) :
    wpAny (model prog w) A (call (.builtin "dict.__eq__") [.ref l, .str b u]) Q E s := by
  refine wpAny_call_entry PySem.F.slot_dict_eq_refl hT PySem.F.entry_dict_eq ?_ (PySem.F.args_dict_eq_2 _ _)
  show wpAny _ _ (Builtin.Dict.dictSlotArgs "__eq__" ⟨[.ref l, .str b u], []⟩ >>= _) _ _ s
  refine wpAny_bind ?_
  unfold Builtin.Dict.dictSlotArgs
  refine wpAny_bind (wpAny_notOrdered_dict hT ?_)
  show wpAny _ _ (pure (Value.ref l, Value.str b u)) _ _ s
  refine wpAny_pure ?_
  refine wpAny_bind (wpAny_isInstance (T := "str") (typeIs_str s b u) PySem.F.sub_str_dict ?_)
  simp only [Bool.not_false, if_true]
  refine wpAny_bind (wpAny_rule ?_)
  exact wpAny_pure ⟨_, rfl, h⟩
theorem rc_str_dict {A : Around} {s : Shared} {l : Addr} {o : Obj} {es : Array DictEntry} {n : Nat} (ho : s.heap.get? l = some o) (hc : o.cls = .type "dict") (hd : o.data = .dict es n) (b : Str) (u : Tok) (hu : A.units < cLine) : SeqAt.RcAt A s (.str b u) (.ref l) false := fun prog w E Q h => by
  obtain ⟨cls, dd, data, sl⟩ := o
  simp only at hc hd
  subst hc hd
  have hT : s.TypeIs (.ref l) "dict" := ⟨_, ho, rfl⟩
  exact SeqAt.rc_eq_decline_or (k := false) (typeIs_str s b u) hT (by decide) F.sub_dict_str F.slot_str_eq F.slot_dict_eq_refl
    (fun _ hq => call_meets F.slot_str_eq (typeIs_str s b u) F.entry_str_eq (F.args_str_eq_2 _ _) (str_eq_declines_dict b u l (.type "dict") es n dd sl) ⟨ho, hq⟩)
    (fun _ hq => dict_eq_declines_str b u l hT _ hq)
    (fun _ hq => wpAny_of_eq (rfl : isSame (.str b u) (.ref l) = pure false) hq) (.inr hu) h
theorem eq_str_dict {A : Around} {s : Shared} {l : Addr} {o : Obj} {es : Array DictEntry} {n : Nat} (ho : s.heap.get? l = some o) (hc : o.cls = .type "dict") (hd : o.data = .dict es n) (b : Str) (u : Tok) (hu : A.units < cLine) : SeqAt.EqAt A s (.str b u) (.ref l) false := fun prog w E Q h => by
  unfold eqBool
  refine wpAny_holding ?_
  refine wpAny_ite_split (fun hab => absurd (eq_of_beq hab) nofun) (fun _ => ?_)
  exact wpAny_bind (rc_str_dict ho hc hd b u hu prog w E _ (wpAny_truthy_bool h))
/-- tuples, lists, dicts -/
def boxU : U → Bool
  | .tup _ => true
  | .lst _ => true
  | .dct _ _ => true
  | _ => false
def strU : U → Bool
  | .str _ => true
  | _ => false
section
variable {X : Cx} {pins : List (Addr × Obj)} {sg : St} {W : Addr → Prop} {io : List Addr} {H : Hp} {s : Shared} {A : Around}
theorem eq_str_box (I : Inv X pins sg H s) (hu : A.units < cLine) {x : U} {v : V} {r : Value} (hb : boxU x = true) (hr : Rep X.K W io H x v) (hv : RelV v r) (b : Str) (u : Tok) : SeqAt.EqAt A s (.str b u) r false := by
  cases x with
  | tup us =>
    obtain ⟨a, vs, rfl, l, _⟩ := hr.tup'
    cases hv
    obtain ⟨its, _, pl, _⟩ := I.tuple l.sq
    exact SeqAt.EqAt.str_tuple b u pl hu
  | lst us =>
    obtain ⟨a, vs, rfl, l, _⟩ := hr.lst'
    cases hv
    obtain ⟨its, _, pl, _⟩ := I.list l.sq
    exact SeqAt.EqAt.str_list b u pl.isList hu
  | dct ks us =>
    unfold Rep at hr
    obtain ⟨a, vs, rfl, l, _⟩ := hr
    cases hv
    rcases l.2 with ⟨kvs, e, _⟩ | ⟨kvs, e, _⟩
    · obtain ⟨_, _, vs, _, ob, es, ep, h1, h2, h3, _⟩ := dk_rd I.hok e
      exact eq_str_dict h1 h2.1 h3 b u hu
    · obtain ⟨_, _, vs, _, ob, es, ep, h1, h2, h3, _⟩ := dt_rd I.hok (.inl e)
      exact eq_str_dict h1 h2.1 h3 b u hu
  | _ => cases hb
theorem eq_strs_box (I : Inv X pins sg H s) (hu : A.units < cLine) {x : U} {v : V} {r : Value} (hb : boxU x = true) (hr : Rep X.K W io H x v) (hv : RelV v r) : ∀ {us : List U} {vs : List V} {rs : List Value}, us.all strU = true → Reps X.K W io H us vs → Vals vs rs → ∀ w ∈ rs, SeqAt.EqAt A s w r false
  | [], _, _, _, h, hs => fun w hw => by rw [h.isNil] at hs; cases hs; cases hw
  | u :: us, _, _, f, h, hs => fun w hw => by
    obtain ⟨v', r', rfl, q, t⟩ := h.uncons
    rw [List.all_cons, Bool.and_eq_true] at f
    cases hs with
    | cons ry rt =>
      rcases List.mem_cons.mp hw with rfl | hw
      · cases u with
        | str z => rw [q.str'] at ry; obtain ⟨t', rfl⟩ := ry; exact eq_str_box I hu hb hr hv z t'
        | _ => cases f.1
      · exact eq_strs_box I hu hb hr hv f.2 t rt w hw
end
section
variable {X : Cx} {W : Addr → Prop} {io : List Addr}
theorem op_in_box (hu : X.A.units + 65 < cLine) {pins s sg H x y v u} {Q : VK} (I : Inv X pins sg H s) (rx : RelV x v) (ry : RelV y u) {u1 : U} {us : List U} {a : Addr} {vs : List V} (hb : boxU u1 = true) (r1 : Rep X.K W io H u1 x) (hy : y = .ref a) (hq : SqL X.K H a vs ∨ SqT X.K H a vs) (hs : us.all strU = true) (rs : Reps X.K W io H us vs) (q : Q (.bl false) H) :
    wpAny (model X.prog X.w) X.A (compareOp .In v u) (EP X pins sg Q) X.xe s := by
  subst hy
  cases ry
  rcases hq with hq | hq
  · obtain ⟨its, r, pl, hz⟩ := I.list hq
    refine SeqAt.in_listAt (fun _ => false) pl.isList (fun w hw => eq_strs_box I (by show X.A.units + 1 < cLine; omega) hb r1 rx hs rs r w (by simpa using hw)) ⟨.bl _, H, I, rfl, ?_⟩
    rw [show its.toArray.any (fun _ => false) = false by simp]
    exact q
  · obtain ⟨its, r, pl, hz⟩ := I.tuple hq
    refine SeqAt.in_tupleAt (fun _ => false) pl (fun w hw => eq_strs_box I (by show X.A.units + 1 < cLine; omega) hb r1 rx hs rs r w (by simpa using hw)) ⟨.bl _, H, I, rfl, ?_⟩
    rw [show its.toArray.any (fun _ => false) = false by simp]
    exact q
theorem op_nin_box (hu : X.A.units + 65 < cLine) {pins s sg H x y v u} {Q : VK} (I : Inv X pins sg H s) (rx : RelV x v) (ry : RelV y u) {u1 : U} {us : List U} {a : Addr} {vs : List V} (hb : boxU u1 = true) (r1 : Rep X.K W io H u1 x) (hy : y = .ref a) (hq : SqL X.K H a vs ∨ SqT X.K H a vs) (hs : us.all strU = true) (rs : Reps X.K W io H us vs) (q : Q (.bl true) H) :
    wpAny (model X.prog X.w) X.A (compareOp .NotIn v u) (EP X pins sg Q) X.xe s := by
  subst hy
  cases ry
  rcases hq with hq | hq
  · obtain ⟨its, r, pl, hz⟩ := I.list hq
    refine SeqAt.notIn_listAt (fun _ => false) pl.isList (fun w hw => eq_strs_box I (by show X.A.units + 1 < cLine; omega) hb r1 rx hs rs r w (by simpa using hw)) ⟨.bl _, H, I, rfl, ?_⟩
    rw [show its.toArray.any (fun _ => false) = false by simp]
    exact q
  · obtain ⟨its, r, pl, hz⟩ := I.tuple hq
    refine SeqAt.notIn_tupleAt (fun _ => false) pl (fun w hw => eq_strs_box I (by show X.A.units + 1 < cLine; omega) hb r1 rx hs rs r w (by simpa using hw)) ⟨.bl _, H, I, rfl, ?_⟩
    rw [show its.toArray.any (fun _ => false) = false by simp]
    exact q
end
end D
namespace D
open PySem L2
/-! ### == -/
mutual
def pd : U → PyData
  | .non => .none
  | .bl b => .bool b
  | .int i => .int i
  | .str x => .str x
  | .tup us => .tuple (pds us)
  | .lst us => .list (pds us)
  | .dct _ _ => .dict []
  | .ref _ => .dict []
  | .ty _ => .dict []
  | .scr _ => .dict []
def pds : List U → List PyData
  | [] => []
  | u :: us => pd u :: pds us
end
mutual
theorem Rep.dp {K : PySem.W.Frag} {W : Addr → Prop} {io : List Addr} {H : Hp} : ∀ (u : U) (v : V), Rep K W io H u v → (pd u).canLay0 = true → Dp K H v (pd u)
  | .non, v, h, _ => by rw [h.non']; exact .non
  | .bl b, v, h, _ => by rw [h.bl']; exact .bl b
  | .int i, v, h, _ => by rw [h.int']; exact .int i
  | .str x, v, h, _ => by rw [h.str']; exact .str x
  | .tup us, v, h, c => by
    obtain ⟨a, vs, rfl, l, r⟩ := h.tup'
    unfold pd
    exact .tup l.sq (Reps.dp us vs r (by unfold pd PyData.canLay0 at c; exact c))
  | .lst us, v, h, c => by
    obtain ⟨a, vs, rfl, l, r⟩ := h.lst'
    unfold pd
    exact .lst l.sq (Reps.dp us vs r (by unfold pd PyData.canLay0 at c; exact c))
  | .dct _ _, v, h, c => by unfold pd PyData.canLay0 at c; cases c
  | .ref _, v, h, c => by unfold pd PyData.canLay0 at c; cases c
  | .ty _, v, h, c => by unfold pd PyData.canLay0 at c; cases c
  | .scr _, v, h, c => by unfold pd PyData.canLay0 at c; cases c
theorem Reps.dp {K : PySem.W.Frag} {W : Addr → Prop} {io : List Addr} {H : Hp} : ∀ (us : List U) (vs : List V), Reps K W io H us vs → PyData.canLayAll0 (pds us) = true → DpAll K H vs (pds us)
  | [], vs, h, _ => by rw [h.isNil]; exact .nil
  | u :: us, vs, h, c => by
    obtain ⟨v, r, rfl, q, t⟩ := h.uncons
    unfold pds PyData.canLayAll0 at c
    rw [Bool.and_eq_true] at c
    exact .cons (Rep.dp u v q c.1) (Reps.dp us r t c.2)
end
def okD (u : U) : Bool := SeqAt.shaped (pd u)
def eqU (u v : U) : Bool := PyData.eqv (pd u) (pd v)
/-! ### is -/
def is2 : U → U → Option U
  | .non, .non => some (.bl true)
  | .bl _, .non => some (.bl false)
  | .int _, .non => some (.bl false)
  | .str _, .non => some (.bl false)
  | .tup _, .non => some (.bl false)
  | .lst _, .non => some (.bl false)
  | .dct _ _, .non => some (.bl false)
  | .ref _, .non => some (.bl false)
  | .bl a, .bl b => some (.bl (decide (a = b)))
  | _, _ => none
def isnot2 : U → U → Option U
  | .non, .non => some (.bl false)
  | .bl _, .non => some (.bl true)
  | .int _, .non => some (.bl true)
  | .str _, .non => some (.bl true)
  | .tup _, .non => some (.bl true)
  | .lst _, .non => some (.bl true)
  | .dct _ _, .non => some (.bl true)
  | .ref _, .non => some (.bl true)
  | .bl a, .bl b => some (.bl (!decide (a = b)))
  | _, _ => none
/-! ### in -/
def flatU : U → Bool
  | .non => true
  | .bl _ => true
  | .int _ => true
  | .str _ => true
  | _ => false
def in2 : U → U → Option U
  | .str x, .str y => if x.cps.size = 1 then some (.bl (decide (x.cps.getD 0 0 ∈ y.cps.toList))) else none
  | x, .tup ys => if flatU x && ys.all flatU then some (.bl (ys.any fun y => eqU y x)) else if boxU x && ys.all strU then some (.bl false) else none
  | x, .lst ys => if flatU x && ys.all flatU then some (.bl (ys.any fun y => eqU y x)) else if boxU x && ys.all strU then some (.bl false) else if okD x && okD (.lst ys) then some (.bl (ys.any fun y => eqU y x)) else none
  | _, _ => none
def nin2 : U → U → Option U
  | .str x, .str y => if x.cps.size = 1 then some (.bl (!decide (x.cps.getD 0 0 ∈ y.cps.toList))) else none
  | x, .tup ys => if flatU x && ys.all flatU then some (.bl (!ys.any fun y => eqU y x)) else if boxU x && ys.all strU then some (.bl true) else none
  | x, .lst ys => if flatU x && ys.all flatU then some (.bl (!ys.any fun y => eqU y x)) else if boxU x && ys.all strU then some (.bl true) else if okD x && okD (.lst ys) then some (.bl (!ys.any fun y => eqU y x)) else none
  | _, _ => none
section
variable {K : PySem.W.Frag} {W : Addr → Prop} {io : List Addr} {H : Hp}
theorem flat_rep {u : U} {v : V} (f : flatU u = true) (h : Rep K W io H u v) : flatV v = true := by
  cases u with
  | non => rw [h.non']; rfl
  | bl b => rw [h.bl']; rfl
  | int b => rw [h.int']; rfl
  | str b => rw [h.str']; rfl
  | _ => cases f
theorem flats_rep : ∀ {us : List U} {vs : List V}, us.all flatU = true → Reps K W io H us vs → vs.all flatV = true
  | [], _, _, h => by rw [h.isNil]; rfl
  | u :: us, _, f, h => by
    obtain ⟨v, r, rfl, q, t⟩ := h.uncons
    rw [List.all_cons, Bool.and_eq_true] at f
    rw [List.all_cons, flat_rep f.1 q, flats_rep f.2 t]; rfl
theorem eqV_rep {u w : U} {x y : V} (f : flatU u = true) (f' : flatU w = true) (h : Rep K W io H u x) (h' : Rep K W io H w y) : eqV x y = eqU u w := by
  cases u with
  | non =>
    rw [h.non']
    cases w with
    | non => rw [h'.non']; rfl
    | bl b => rw [h'.bl']; rfl
    | int b => rw [h'.int']; rfl
    | str b => rw [h'.str']; rfl
    | _ => cases f'
  | bl a =>
    rw [h.bl']
    cases w with
    | non => rw [h'.non']; rfl
    | bl b => rw [h'.bl']; rfl
    | int b => rw [h'.int']; rfl
    | str b => rw [h'.str']; rfl
    | _ => cases f'
  | int a =>
    rw [h.int']
    cases w with
    | non => rw [h'.non']; rfl
    | bl b => rw [h'.bl']; rfl
    | int b => rw [h'.int']; rfl
    | str b => rw [h'.str']; rfl
    | _ => cases f'
  | str a =>
    rw [h.str']
    cases w with
    | non => rw [h'.non']; rfl
    | bl b => rw [h'.bl']; rfl
    | int b => rw [h'.int']; rfl
    | str b => rw [h'.str']; rfl
    | _ => cases f'
  | _ => cases f
theorem inV_rep {w : U} {y : V} (f' : flatU w = true) (h' : Rep K W io H w y) : ∀ {us : List U} {vs : List V}, us.all flatU = true → Reps K W io H us vs → inV y vs = us.any fun u => eqU u w
  | [], _, _, h => by rw [h.isNil]; rfl
  | u :: us, _, f, h => by
    obtain ⟨v, r, rfl, q, t⟩ := h.uncons
    rw [List.all_cons, Bool.and_eq_true] at f
    have ih := inV_rep f' h' f.2 t
    unfold inV at ih ⊢
    rw [List.any_cons, List.any_cons, eqV_rep f.1 f' q h', ih]
theorem pds_any {w : U} : ∀ us : List U, ((pds us).any fun z => PyData.eqv z (pd w)) = us.any fun u => eqU u w
  | [] => by unfold pds; rfl
  | u :: us => by unfold pds; rw [List.any_cons, List.any_cons, pds_any us]; rfl
end
section
variable {X : Cx}
theorem Rep.notNone {K : PySem.W.Frag} {W : Addr → Prop} {io : List Addr} {H : Hp} {u : U} {v : V} (h : Rep K W io H u v) (n : u ≠ .non) : v ≠ .non := fun e => by
  subst e
  cases u with
  | non => exact n rfl
  | bl b => cases h.bl'
  | int b => cases h.int'
  | str b => cases h.str'
  | tup us => obtain ⟨_, _, e, _⟩ := h.tup'; cases e
  | lst us => obtain ⟨_, _, e, _⟩ := h.lst'; cases e
  | dct ks us => unfold Rep at h; obtain ⟨_, _, e, _⟩ := h; cases e
  | ref k => unfold Rep at h; obtain ⟨_, _, e⟩ := h; cases e
  | ty k => unfold Rep at h; cases h
  | scr ns => unfold Rep at h; obtain ⟨_, e, _⟩ := h; cases e
theorem o_is : OpR X (compareOp .Is) (P2 X.K is2) := by
  intro pins s sg H x y v u Q I rx ry h
  obtain ⟨G, io, st, u1, u2, u3, ok, r1, r2, e, q⟩ := h
  have no : u1 ≠ .non → y = .non → u3 = .bl false → wpAny (model X.prog X.w) X.A (compareOp .Is v u) (EP X pins sg Q) X.xe s := fun n ey e3 => by
    subst ey; subst e3
    exact op_isN pins s sg H _ _ v u Q I rx ry ⟨rfl, q _ H (Same.refl H) (by rw [decide_eq_false (r1.notNone n)]; exact rBl _)⟩
  unfold is2 at e
  split at e
  · cases e; have e1 := r1.non'; have e2 := r2.non'; subst e1; subst e2
    exact op_isN pins s sg H _ _ v u Q I rx ry ⟨rfl, q _ H (Same.refl H) (rBl _)⟩
  · cases e; exact no (fun z => nomatch z) r2.non' rfl
  · cases e; exact no (fun z => nomatch z) r2.non' rfl
  · cases e; exact no (fun z => nomatch z) r2.non' rfl
  · cases e; exact no (fun z => nomatch z) r2.non' rfl
  · cases e; exact no (fun z => nomatch z) r2.non' rfl
  · cases e; exact no (fun z => nomatch z) r2.non' rfl
  · cases e; exact no (fun z => nomatch z) r2.non' rfl
  · cases e; have e1 := r1.bl'; have e2 := r2.bl'; subst e1; subst e2
    exact op_is_bl pins s sg H _ _ v u Q I rx ry ⟨_, _, rfl, rfl, q _ H (Same.refl H) (rBl _)⟩
  · cases e
theorem o_isnot : OpR X (compareOp .IsNot) (P2 X.K isnot2) := by
  intro pins s sg H x y v u Q I rx ry h
  obtain ⟨G, io, st, u1, u2, u3, ok, r1, r2, e, q⟩ := h
  have no : u1 ≠ .non → y = .non → u3 = .bl true → wpAny (model X.prog X.w) X.A (compareOp .IsNot v u) (EP X pins sg Q) X.xe s := fun n ey e3 => by
    subst ey; subst e3
    exact op_notN pins s sg H _ _ v u Q I rx ry ⟨rfl, q _ H (Same.refl H) (by rw [decide_eq_false (r1.notNone n)]; exact rBl _)⟩
  unfold isnot2 at e
  split at e
  · cases e; have e1 := r1.non'; have e2 := r2.non'; subst e1; subst e2
    exact op_notN pins s sg H _ _ v u Q I rx ry ⟨rfl, q _ H (Same.refl H) (rBl _)⟩
  · cases e; exact no (fun z => nomatch z) r2.non' rfl
  · cases e; exact no (fun z => nomatch z) r2.non' rfl
  · cases e; exact no (fun z => nomatch z) r2.non' rfl
  · cases e; exact no (fun z => nomatch z) r2.non' rfl
  · cases e; exact no (fun z => nomatch z) r2.non' rfl
  · cases e; exact no (fun z => nomatch z) r2.non' rfl
  · cases e; exact no (fun z => nomatch z) r2.non' rfl
  · cases e; have e1 := r1.bl'; have e2 := r2.bl'; subst e1; subst e2
    exact op_isnot_bl pins s sg H _ _ v u Q I rx ry ⟨_, _, rfl, rfl, q _ H (Same.refl H) (rBl _)⟩
  · cases e
theorem str_one {x : Str} (h : x.cps.size = 1) : x = ⟨#[x.cps.getD 0 0]⟩ := by
  obtain ⟨⟨l⟩⟩ := x
  match l, h with
  | [c], _ => rfl
theorem o_in (hu : X.A.units + 65 < cLine) : OpR X (compareOp .In) (P2 X.K in2) := by
  intro pins s sg H x y v u Q I rx ry h
  obtain ⟨G, io, st, u1, u2, u3, ok, r1, r2, e, q⟩ := h
  unfold in2 at e
  split at e
  · split at e
    · rename_i h1
      cases e; have e1 := r1.str'; have e2 := r2.str'; subst e1; subst e2
      exact op_in_sign pins s sg H _ _ v u Q I rx ry ⟨_, _, congrArg V.str (str_one h1), rfl, q _ H (Same.refl H) (rBl _)⟩
    · cases e
  · split at e
    · rename_i hf
      cases e
      rw [Bool.and_eq_true] at hf
      obtain ⟨a, vs, rfl, l, rs⟩ := r2.tup'
      exact op_in_seq pins s sg H _ _ v u Q I rx ry ⟨a, vs, rfl, .inr l.sq, flat_rep hf.1 r1, flats_rep hf.2 rs, q _ H (Same.refl H) (by rw [inV_rep hf.1 r1 hf.2 rs]; exact rBl _)⟩
    · split at e
      · rename_i hf
        cases e
        rw [Bool.and_eq_true] at hf
        obtain ⟨a, vs, rfl, l, rs⟩ := r2.tup'
        exact op_in_box hu I rx ry hf.1 r1 rfl (.inr l.sq) hf.2 rs (q _ H (Same.refl H) (rBl _))
      · cases e
  · split at e
    · rename_i hf
      cases e
      rw [Bool.and_eq_true] at hf
      obtain ⟨a, vs, rfl, l, rs⟩ := r2.lst'
      exact op_in_seq pins s sg H _ _ v u Q I rx ry ⟨a, vs, rfl, .inl l.sq, flat_rep hf.1 r1, flats_rep hf.2 rs, q _ H (Same.refl H) (by rw [inV_rep hf.1 r1 hf.2 rs]; exact rBl _)⟩
    · split at e
      · rename_i hf
        cases e
        rw [Bool.and_eq_true] at hf
        obtain ⟨a, vs, rfl, l, rs⟩ := r2.lst'
        exact op_in_box hu I rx ry hf.1 r1 rfl (.inl l.sq) hf.2 rs (q _ H (Same.refl H) (rBl _))
      split at e
      · rename_i ho
        cases e
        rw [Bool.and_eq_true] at ho
        refine op_inD hu pins s sg H _ _ v u Q I rx ry ⟨pd u1, _, r1.dp _ _ (SeqAt.canLay_of_shaped ho.1), r2.dp _ _ (SeqAt.canLay_of_shaped ho.2), ho.1, ho.2, q _ H (Same.refl H) ?_⟩
        rw [pds_any]; exact rBl _
      · cases e
  · cases e
theorem o_nin (hu : X.A.units + 65 < cLine) : OpR X (compareOp .NotIn) (P2 X.K nin2) := by
  intro pins s sg H x y v u Q I rx ry h
  obtain ⟨G, io, st, u1, u2, u3, ok, r1, r2, e, q⟩ := h
  unfold nin2 at e
  split at e
  · split at e
    · rename_i h1
      cases e; have e1 := r1.str'; have e2 := r2.str'; subst e1; subst e2
      exact op_notIn_sign pins s sg H _ _ v u Q I rx ry ⟨_, _, congrArg V.str (str_one h1), rfl, q _ H (Same.refl H) (rBl _)⟩
    · cases e
  · split at e
    · rename_i hf
      cases e
      rw [Bool.and_eq_true] at hf
      obtain ⟨a, vs, rfl, l, rs⟩ := r2.tup'
      exact op_notIn_seq pins s sg H _ _ v u Q I rx ry ⟨a, vs, rfl, .inr l.sq, flat_rep hf.1 r1, flats_rep hf.2 rs, q _ H (Same.refl H) (by rw [inV_rep hf.1 r1 hf.2 rs]; exact rBl _)⟩
    · split at e
      · rename_i hf
        cases e
        rw [Bool.and_eq_true] at hf
        obtain ⟨a, vs, rfl, l, rs⟩ := r2.tup'
        exact op_nin_box hu I rx ry hf.1 r1 rfl (.inr l.sq) hf.2 rs (q _ H (Same.refl H) (rBl _))
      · cases e
  · split at e
    · rename_i hf
      cases e
      rw [Bool.and_eq_true] at hf
      obtain ⟨a, vs, rfl, l, rs⟩ := r2.lst'
      exact op_notIn_seq pins s sg H _ _ v u Q I rx ry ⟨a, vs, rfl, .inl l.sq, flat_rep hf.1 r1, flats_rep hf.2 rs, q _ H (Same.refl H) (by rw [inV_rep hf.1 r1 hf.2 rs]; exact rBl _)⟩
    · split at e
      · rename_i hf
        cases e
        rw [Bool.and_eq_true] at hf
        obtain ⟨a, vs, rfl, l, rs⟩ := r2.lst'
        exact op_nin_box hu I rx ry hf.1 r1 rfl (.inl l.sq) hf.2 rs (q _ H (Same.refl H) (rBl _))
      split at e
      · rename_i ho
        cases e
        rw [Bool.and_eq_true] at ho
        refine op_notInD hu pins s sg H _ _ v u Q I rx ry ⟨pd u1, _, r1.dp _ _ (SeqAt.canLay_of_shaped ho.1), r2.dp _ _ (SeqAt.canLay_of_shaped ho.2), ho.1, ho.2, q _ H (Same.refl H) ?_⟩
        rw [pds_any]; exact rBl _
      · cases e
  · cases e
end
/-! ### places -/
def ix2 : U → U → Option U
  | .lst us, .int i => atI us i
  | .tup us, .int i => atI us i
  | .scr ns, .int i => (atI ns i).map U.int
  | .str x, .int i => if x.length ≤ sizeLine then (atI x.cps.toList i).map fun c => .str ⟨#[c]⟩ else none
  | _, _ => none
theorem atI_map {A B : Type} (f : A → B) {l : List A} {i : Int} {x : A} (h : atI l i = some x) : atI (l.map f) i = some (f x) := by
  unfold atI at h ⊢
  rw [List.length_map]
  cases q : ixN l.length i with
  | none => rw [q] at h; cases h
  | some j =>
    rw [q] at h
    have h : l[j]? = some x := h
    show (l.map f)[j]? = some (f x)
    rw [List.getElem?_map, h]; rfl
theorem atI_rep {K : PySem.W.Frag} {W : Addr → Prop} {io : List Addr} {H : Hp} {us : List U} {vs : List V} (r : Reps K W io H us vs) {i : Int} {u : U} (h : atI us i = some u) : ∃ v, atI vs i = some v ∧ Rep K W io H u v := by
  unfold atI at h ⊢
  rw [← r.length]
  cases q : ixN us.length i with
  | none => rw [q] at h; cases h
  | some j =>
    rw [q] at h
    obtain ⟨v, h1, h2⟩ := r.get (i := j) (u := u) h
    exact ⟨v, h1, h2⟩
section
variable {X : Cx} {xs : XS} {wx : WX} {pos : Pos}
theorem o_ix : IxR X (P2 X.K ix2) := by
  intro value slice pins s sg H x y v u Q I rx ry h hs
  obtain ⟨G, io, st, u1, u2, u3, ok, r1, r2, e, q⟩ := h
  unfold ix2 at e
  split at e
  · have e2 := r2.int'; subst e2
    obtain ⟨a, vs, rfl, l, rs⟩ := r1.lst'
    obtain ⟨w, h1, h2⟩ := atI_rep rs e
    exact ix_list value slice pins s sg H _ _ v u Q I rx ry ⟨a, vs, _, w, rfl, rfl, l.sq, h1, q _ H (Same.refl H) h2⟩ hs
  · have e2 := r2.int'; subst e2
    obtain ⟨a, vs, rfl, l, rs⟩ := r1.tup'
    obtain ⟨w, h1, h2⟩ := atI_rep rs e
    exact ix_tup value slice pins s sg H _ _ v u Q I rx ry ⟨a, vs, _, w, rfl, rfl, l.sq, h1, q _ H (Same.refl H) h2⟩ hs
  · have e2 := r2.int'; subst e2
    rw [Option.map_eq_some_iff] at e
    obtain ⟨n, hn, rfl⟩ := e
    unfold Rep at r1
    obtain ⟨a, rfl, l⟩ := r1
    have h1 := atI_map V.int hn
    exact ix_list value slice pins s sg H _ _ v u Q I rx ry ⟨a, _, _, _, rfl, rfl, l.sq, h1, q _ H (Same.refl H) (rInt _)⟩ hs
  · split at e
    · rename_i hz
      have e1 := r1.str'; have e2 := r2.int'; subst e1; subst e2
      rw [Option.map_eq_some_iff] at e
      obtain ⟨c, hc, rfl⟩ := e
      exact ix_str value slice pins s sg H _ _ v u Q I rx ry ⟨_, _, c, rfl, rfl, hz, hc, q _ H (Same.refl H) (rStr _)⟩ hs
    · cases e
  · cases e
theorem d_ix {a b : Expr} {f g : DE} (ha : PE X a (tD X.K xs wx f)) (hb : PE X b (tD X.K xs wx g)) (hs : PlainIx b) : PE X (.Subscript a b pos) (tD X.K xs wx (bin ix2 f g)) := pe_imp (pe_ix o_ix ha hb hs) fun _ _ _ h => bin_read h
/-! ### slices -/
def cutL {A : Type} (l : List A) (lo hi : Option Int) : List A := (l.drop (HT.sIx l.length 0 lo)).take (HT.sIx l.length l.length hi - HT.sIx l.length 0 lo)
def sl3 (u : U) (lo hi : Option Int) : Option U := match u with
  | .lst us => some (.lst (cutL us lo hi))
  | .tup us => some (.tup (cutL us lo hi))
  | .scr ns => some (.lst ((cutL ns lo hi).map U.int))
  | .str x => if x.length ≤ sizeLine then some (.str (cutS x lo hi)) else none
  | _ => none
abbrev DO := Env → Store → Rs (Option Int)
def noO : DO := fun _ st => .ok none st
def soO (f : DE) : DO := fun env st => (f env st).bind fun u st1 => match u with
  | .int i => .ok (some i) st1
  | _ => .bad
def slD (f : DE) (a b : DO) : DE := fun env st => (f env st).bind fun u st1 => (a env st1).bind fun lo st2 => (b env st2).bind fun hi st3 => Rs.of (sl3 u lo hi) st3
def tDO (K : PySem.W.Frag) (xs : XS) (wx : WX) (f : DO) : TO := fun sg H Q => ∃ G io st env, Ok K G io st H ∧ EnvRep K G io H env sg ∧
  Wants K G io H (fun _ _ H' o => Q o H') (XW xs wx sg) (f env st)
theorem po_imp {e : Option Expr} {t t' : TO} (h : PO X e t) (f : ∀ sg H Q, t' sg H Q → t sg H Q) : PO X e t' := ⟨fun pins s sg H Q I q => h.run pins s sg H Q I (f sg H Q q)⟩
theorem op_none : PO X none (tDO X.K xs wx noO) := po_imp po_none fun sg H Q h => by
  obtain ⟨G, io, st, env, ok, er, w⟩ := h
  exact w.here ok
theorem op_some {e : Expr} {f : DE} (h : PE X e (tD X.K xs wx f)) : PO X (some e) (tDO X.K xs wx (soO f)) := po_imp (po_some h) fun sg H Q q => by
  obtain ⟨G, io, st, env, ok, er, w⟩ := q
  refine ⟨G, io, st, env, ok, er, w.bind.impR fun st1 io1 H1 u ok1 e1 w1 v rv => ?_⟩
  cases u with
  | int i => exact ⟨i, rv.int', w1.here ok1⟩
  | _ => exact w1.elim
def P3 (K : PySem.W.Frag) : V → Option Int → Option Int → Hp → VK → Prop := fun x lo hi H Q => ∃ G io st u1 u, Ok K G io st H ∧ Rep K (Wf G io) io H u1 x ∧ sl3 u1 lo hi = some u ∧ ∀ v H', Same H H' → Rep K (Wf G io) io H' u v → Q v H'
theorem o_sl : SlR X (P3 X.K) := by
  intro pins s sg H x v vl vu lo hi sl Q I rx hs pl pu h
  obtain ⟨G, io, st, u1, u3, ok, r1, e, q⟩ := h
  unfold sl3 at e
  split at e
  · cases e
    obtain ⟨a, vs, rfl, l, rs⟩ := r1.lst'
    refine sl_list pins s sg H _ v vl vu lo hi sl Q I rx hs pl pu ⟨a, vs, rfl, l.sq, fun p hp => q _ _ (same_upd hp) (ok.newL hp ?_)⟩
    unfold cutL cutV
    rw [rs.length]
    exact (rs.drop _).take _
  · cases e
    obtain ⟨a, vs, rfl, l, rs⟩ := r1.tup'
    refine sl_tupA pins s sg H _ v vl vu lo hi sl Q I rx hs pl pu ⟨a, vs, rfl, l.sq, fun w => q _ H (Same.refl H) ?_, fun _ p hp => q _ _ (same_upd hp) (ok.newT hp ?_)⟩
    · unfold cutL
      rw [rs.length, w.1, w.2, List.drop_zero, Nat.sub_zero, ← rs.length, List.take_length]
      exact rTup l rs
    · unfold cutL cutV
      rw [rs.length]
      exact (rs.drop _).take _
  · cases e
    unfold Rep at r1
    obtain ⟨a, rfl, l⟩ := r1
    refine sl_list pins s sg H _ v vl vu lo hi sl Q I rx hs pl pu ⟨a, _, rfl, l.sq, fun p hp => q _ _ (same_upd hp) (ok.newL hp ?_)⟩
    unfold cutL cutV
    rw [List.length_map, List.map_take, List.map_drop]
    exact ((Reps.ints _).drop _).take _
  · split at e
    · rename_i hz
      cases e; have e1 := r1.str'; subst e1
      exact sl_str pins s sg H _ v vl vu lo hi sl Q I rx hs pl pu ⟨_, rfl, hz, q _ H (Same.refl H) (rStr _)⟩
    · cases e
  · cases e
theorem d_slice {e : Expr} {lo hi : Option Expr} {p2 : Pos} {f : DE} {a b : DO} (he : PE X e (tD X.K xs wx f)) (hl : PO X lo (tDO X.K xs wx a)) (hu : PO X hi (tDO X.K xs wx b)) : PE X (.Subscript e (.Slice lo hi none p2) pos) (tD X.K xs wx (slD f a b)) :=
  pe_imp (pe_slice o_sl he hl hu) fun sg H Q h => by
    obtain ⟨G, io, st, env, ok, er, w⟩ := h
    refine ⟨G, io, st, env, ok, er, w.bind.impR fun st1 io1 H1 u ok1 e1 w1 v rv => ?_⟩
    refine ⟨G, io1, st1, env, ok1, er.ext ok.dj e1, w1.bind.impR fun st2 io2 H2 l ok2 e2 w2 => ?_⟩
    refine ⟨G, io2, st2, env, ok2, (er.ext ok.dj e1).ext ok1.dj e2, w2.bind.impR fun st3 io3 H3 h ok3 e3 w3 => ?_⟩
    obtain ⟨r, hr, w4⟩ := w3.pure
    exact ⟨G, io3, st3, u, r, ok3, (rv.ext e2).ext e3, hr, fun v' H' s r' => w4.hereS ok3 s v' r'⟩
end
end D
namespace D
open PySem L2
def lenN : List U → Option U
  | [.lst us] => some (.int us.length)
  | [.tup us] => some (.int us.length)
  | [.scr us] => some (.int us.length)
  | [.str x] => if x.length ≤ sizeLine then some (.int x.length) else none
  | _ => none
def tyU : U → Option String
  | .non => some "NoneType"
  | .bl _ => some "bool"
  | .int _ => some "int"
  | .str _ => some "str"
  | .tup _ => some "tuple"
  | .lst _ => some "list"
  | .dct _ _ => some "dict"
  | .scr _ => some "list"
  | _ => none
def isB (a b : String) : Bool := a == b || (a == "bool" && b == "int")
def tyNames : List String := ["str", "int", "bool", "tuple", "list", "dict"]
theorem isB_ok : ∀ a ∈ ["NoneType", "bool", "int", "str", "tuple", "list", "dict"], ∀ b ∈ tyNames, kitB a b = some (isB a b) := by decide +kernel
def isiN : List U → Option U
  | [u, .ty c] => if c ∈ tyNames then (tyU u).map fun t => .bl (isB t c) else none
  | _ => none
theorem tyU_mem {u : U} {t : String} (h : tyU u = some t) : t ∈ ["NoneType", "bool", "int", "str", "tuple", "list", "dict"] := by
  cases u <;> first | (cases h; decide) | cases h
def maxN : List U → Option U
  | [.int i, .int j] => some (.int (if j > i then j else i))
  | _ => none
def minN : List U → Option U
  | [.int i, .int j] => some (.int (if j < i then j else i))
  | _ => none
def absN : List U → Option U
  | [.int i] => some (.int (if i < 0 then -i else i))
  | _ => none
def boolsU : List U → Option (List Bool)
  | [] => some []
  | .bl b :: us => (boolsU us).map (b :: ·)
  | _ => none
def intsU : List U → Option (List Int)
  | [] => some []
  | .int b :: us => (intsU us).map (b :: ·)
  | _ => none
def strsU : List U → Option (List Str)
  | [] => some []
  | .str b :: us => (strsU us).map (b :: ·)
  | _ => none
theorem bools_eq : ∀ {us : List U} {bs : List Bool}, boolsU us = some bs → us = bs.map U.bl
  | [], _, h => by cases h; rfl
  | .bl b :: us, _, h => by
    unfold boolsU at h
    rw [Option.map_eq_some_iff] at h
    obtain ⟨r, h1, rfl⟩ := h
    rw [bools_eq h1]; rfl
  | .non :: _, _, h => by unfold boolsU at h; cases h
  | .int _ :: _, _, h => by unfold boolsU at h; cases h
  | .str _ :: _, _, h => by unfold boolsU at h; cases h
  | .tup _ :: _, _, h => by unfold boolsU at h; cases h
  | .lst _ :: _, _, h => by unfold boolsU at h; cases h
  | .dct _ _ :: _, _, h => by unfold boolsU at h; cases h
  | .ref _ :: _, _, h => by unfold boolsU at h; cases h
  | .ty _ :: _, _, h => by unfold boolsU at h; cases h
  | .scr _ :: _, _, h => by unfold boolsU at h; cases h
theorem ints_eq : ∀ {us : List U} {bs : List Int}, intsU us = some bs → us = bs.map U.int
  | [], _, h => by cases h; rfl
  | .int b :: us, _, h => by
    unfold intsU at h
    rw [Option.map_eq_some_iff] at h
    obtain ⟨r, h1, rfl⟩ := h
    rw [ints_eq h1]; rfl
  | .non :: _, _, h => by unfold intsU at h; cases h
  | .bl _ :: _, _, h => by unfold intsU at h; cases h
  | .str _ :: _, _, h => by unfold intsU at h; cases h
  | .tup _ :: _, _, h => by unfold intsU at h; cases h
  | .lst _ :: _, _, h => by unfold intsU at h; cases h
  | .dct _ _ :: _, _, h => by unfold intsU at h; cases h
  | .ref _ :: _, _, h => by unfold intsU at h; cases h
  | .ty _ :: _, _, h => by unfold intsU at h; cases h
  | .scr _ :: _, _, h => by unfold intsU at h; cases h
theorem strs_eq : ∀ {us : List U} {bs : List Str}, strsU us = some bs → us = bs.map U.str
  | [], _, h => by cases h; rfl
  | .str b :: us, _, h => by
    unfold strsU at h
    rw [Option.map_eq_some_iff] at h
    obtain ⟨r, h1, rfl⟩ := h
    rw [strs_eq h1]; rfl
  | .non :: _, _, h => by unfold strsU at h; cases h
  | .bl _ :: _, _, h => by unfold strsU at h; cases h
  | .int _ :: _, _, h => by unfold strsU at h; cases h
  | .tup _ :: _, _, h => by unfold strsU at h; cases h
  | .lst _ :: _, _, h => by unfold strsU at h; cases h
  | .dct _ _ :: _, _, h => by unfold strsU at h; cases h
  | .ref _ :: _, _, h => by unfold strsU at h; cases h
  | .ty _ :: _, _, h => by unfold strsU at h; cases h
  | .scr _ :: _, _, h => by unfold strsU at h; cases h
theorem bools_map (bs : List Bool) : boolsU (bs.map U.bl) = some bs := by
  induction bs with
  | nil => rfl
  | cons b bs ih => rw [List.map_cons]; unfold boolsU; rw [ih]; rfl
theorem ints_map (bs : List Int) : intsU (bs.map U.int) = some bs := by
  induction bs with
  | nil => rfl
  | cons b bs ih => rw [List.map_cons]; unfold intsU; rw [ih]; rfl
theorem strs_map (bs : List Str) : strsU (bs.map U.str) = some bs := by
  induction bs with
  | nil => rfl
  | cons b bs ih => rw [List.map_cons]; unfold strsU; rw [ih]; rfl
def allN : List U → Option U
  | [.lst us] => (boolsU us).map fun bs => .bl (bs.all id)
  | _ => none
def anyN : List U → Option U
  | [.lst us] => (boolsU us).map fun bs => .bl (bs.any id)
  | _ => none
def sumN : List U → Option U
  | [.lst us] => (intsU us).map fun bs => .int bs.sum
  | [.scr ns] => some (.int ns.sum)
  | _ => none
def tupN : List U → Option U
  | [.lst us] => some (.tup us)
  | [.tup us] => some (.tup us)
  | _ => none
def intN : List U → Option U
  | [.int i] => some (.int i)
  | [.bl k] => some (.int (if k then 1 else 0))
  | _ => none
def strN : List U → Option U
  | [.int i] => if i.natAbs.log2 < 1920 then some (.str (toString i)) else none
  | [.str x] => some (.str x)
  | _ => none
section
variable {K : PySem.W.Frag} {W : Addr → Prop} {io : List Addr} {H : Hp}
theorem Reps.one {u : U} {vs : List V} (h : Reps K W io H [u] vs) : ∃ v, vs = [v] ∧ Rep K W io H u v := by
  obtain ⟨v, r, rfl, q, t⟩ := h.uncons
  rw [t.isNil]; exact ⟨v, rfl, q⟩
theorem Reps.two {u w : U} {vs : List V} (h : Reps K W io H [u, w] vs) : ∃ v x, vs = [v, x] ∧ Rep K W io H u v ∧ Rep K W io H w x := by
  obtain ⟨v, r, rfl, q, t⟩ := h.uncons
  obtain ⟨x, rfl, q'⟩ := t.one
  exact ⟨v, x, rfl, q, q'⟩
theorem Rep.scr' {ns : List Int} {v : V} (h : Rep K W io H (.scr ns) v) : ∃ a, v = .ref a ∧ LS K W H a (ns.map V.int) := by unfold Rep at h; exact h
theorem Rep.dct' {ks us : List U} {v : V} (h : Rep K W io H (.dct ks us) v) : ∃ a vs, v = .ref a ∧ LD W H a ks vs ∧ Reps K W io H us vs := by unfold Rep at h; exact h
theorem Rep.ty' {n : String} {v : V} (h : Rep K W io H (.ty n) v) : v = .ty n := by unfold Rep at h; exact h
theorem tyX {u : U} {v : V} {t : String} (h : Rep K W io H u v) (e : tyU u = some t) : TyX K H v (.type t) := by
  cases u with
  | non => cases e; rw [h.non']; exact .base .non
  | bl b => cases e; rw [h.bl']; exact .base (.bl b)
  | int b => cases e; rw [h.int']; exact .base (.int b)
  | str b => cases e; rw [h.str']; exact .base (.str b)
  | tup us =>
    cases e
    obtain ⟨a, vs, rfl, l, _⟩ := h.tup'
    rcases l with ⟨l | ⟨o, l⟩, _⟩ | ⟨o, its, n, l, c, _⟩
    · exact .base (.tup l)
    · exact .fTuple l
    · exact .kTuple l c
  | lst us =>
    cases e
    obtain ⟨a, vs, rfl, l, _⟩ := h.lst'
    exact .base (.lst l.1)
  | dct ks us =>
    cases e
    obtain ⟨a, vs, rfl, ⟨_, ⟨kvs, l | ⟨o, l⟩, _⟩ | ⟨kvs, l, _⟩⟩, _⟩ := h.dct'
    · exact .base (.dK l)
    · exact .fDict l
    · exact .base (.dT l)
  | scr ns =>
    cases e
    obtain ⟨a, rfl, l⟩ := h.scr'
    rcases l with ⟨l | ⟨o, l⟩, _⟩ | ⟨o, its, n, l, c, _⟩
    · exact .base (.lst l)
    · exact .base (.frz l)
    · exact .kList l c
  | _ => cases e
end
section
variable {X : Cx}
theorem c_len : CallR X (.builtin "len") (PN X.K lenN) := by
  intro pins s sg H vs us Q I r h
  obtain ⟨G, io, st, ws, u, ok, rs, e, q⟩ := h
  unfold lenN at e
  split at e
  · cases e
    obtain ⟨v, rfl, rv⟩ := rs.one
    obtain ⟨a, xs, rfl, l, r'⟩ := rv.lst'
    exact call_len_seq pins s sg H _ us Q I r ⟨a, xs, rfl, .inl l.sq, q _ H (Same.refl H) (by rw [r'.length]; exact rInt _)⟩
  · cases e
    obtain ⟨v, rfl, rv⟩ := rs.one
    obtain ⟨a, xs, rfl, l, r'⟩ := rv.tup'
    exact call_len_seq pins s sg H _ us Q I r ⟨a, xs, rfl, .inr l.sq, q _ H (Same.refl H) (by rw [r'.length]; exact rInt _)⟩
  · cases e
    obtain ⟨v, rfl, rv⟩ := rs.one
    obtain ⟨a, rfl, l⟩ := rv.scr'
    exact call_len_seq pins s sg H _ us Q I r ⟨a, _, rfl, .inl l.sq, q _ H (Same.refl H) (by rw [List.length_map]; exact rInt _)⟩
  · split at e
    · rename_i hz
      cases e
      obtain ⟨v, rfl, rv⟩ := rs.one
      have e1 := rv.str'; subst e1
      exact call_len_str pins s sg H _ us Q I r ⟨_, rfl, hz, q _ H (Same.refl H) (rInt _)⟩
    · cases e
  · cases e
theorem c_isi : CallR X (.builtin "isinstance") (PN X.K isiN) := by
  intro pins s sg H vs us Q I r h
  obtain ⟨G, io, st, ws, u, ok, rs, e, q⟩ := h
  unfold isiN at e
  split at e
  · rename_i w c
    split at e
    · rename_i hc
      rw [Option.map_eq_some_iff] at e
      obtain ⟨t, ht, rfl⟩ := e
      obtain ⟨v, x, rfl, rv, rx⟩ := rs.two
      have e1 := rx.ty'; subst e1
      exact call_isi pins s sg H _ us Q I r ⟨v, .ty c, .type t, .type c, isB t c, rfl, .ty c, tyX rv ht, kit_ty (isB_ok t (tyU_mem ht) c hc), q _ H (Same.refl H) (rBl _)⟩
    · cases e
  · cases e
theorem c_max (hc : X.calm = true) : CallR X (.builtin "max") (PN X.K maxN) := by
  intro pins s sg H vs us Q I r h
  obtain ⟨G, io, st, ws, u, ok, rs, e, q⟩ := h
  unfold maxN at e
  split at e
  · cases e
    obtain ⟨v, x, rfl, rv, rx⟩ := rs.two
    have e1 := rv.int'; have e2 := rx.int'; subst e1; subst e2
    exact call_max2 hc pins s sg H _ us Q I r ⟨_, _, rfl, q _ H (Same.refl H) (rInt _)⟩
  · cases e
theorem c_min (hc : X.calm = true) : CallR X (.builtin "min") (PN X.K minN) := by
  intro pins s sg H vs us Q I r h
  obtain ⟨G, io, st, ws, u, ok, rs, e, q⟩ := h
  unfold minN at e
  split at e
  · cases e
    obtain ⟨v, x, rfl, rv, rx⟩ := rs.two
    have e1 := rv.int'; have e2 := rx.int'; subst e1; subst e2
    exact call_min2 hc pins s sg H _ us Q I r ⟨_, _, rfl, q _ H (Same.refl H) (rInt _)⟩
  · cases e
theorem c_abs : CallR X (.builtin "abs") (PN X.K absN) := by
  intro pins s sg H vs us Q I r h
  obtain ⟨G, io, st, ws, u, ok, rs, e, q⟩ := h
  unfold absN at e
  split at e
  · cases e
    obtain ⟨v, rfl, rv⟩ := rs.one
    have e1 := rv.int'; subst e1
    exact call_abs pins s sg H _ us Q I r ⟨_, rfl, q _ H (Same.refl H) (rInt _)⟩
  · cases e
theorem c_all (hc : X.calm = true) : CallR X (.builtin "all") (PN X.K allN) := by
  intro pins s sg H vs us Q I r h
  obtain ⟨G, io, st, ws, u, ok, rs, e, q⟩ := h
  unfold allN at e
  split at e
  · rw [Option.map_eq_some_iff] at e
    obtain ⟨bs, hb, rfl⟩ := e
    obtain ⟨v, rfl, rv⟩ := rs.one
    obtain ⟨a, xs, rfl, l, r'⟩ := rv.lst'
    rw [bools_eq hb] at r'
    have e1 := Reps.ofBls r'; subst e1
    exact cr_all hc pins s sg H _ us Q I r ⟨a, bs, rfl, l.sq, q _ H (Same.refl H) (rBl _)⟩
  · cases e
theorem c_any (hc : X.calm = true) : CallR X (.builtin "any") (PN X.K anyN) := by
  intro pins s sg H vs us Q I r h
  obtain ⟨G, io, st, ws, u, ok, rs, e, q⟩ := h
  unfold anyN at e
  split at e
  · rw [Option.map_eq_some_iff] at e
    obtain ⟨bs, hb, rfl⟩ := e
    obtain ⟨v, rfl, rv⟩ := rs.one
    obtain ⟨a, xs, rfl, l, r'⟩ := rv.lst'
    rw [bools_eq hb] at r'
    have e1 := Reps.ofBls r'; subst e1
    exact cr_any hc pins s sg H _ us Q I r ⟨a, bs, rfl, l.sq, q _ H (Same.refl H) (rBl _)⟩
  · cases e
theorem c_sum (hc : X.calm = true) : CallR X (.builtin "sum") (PN X.K sumN) := by
  intro pins s sg H vs us Q I r h
  obtain ⟨G, io, st, ws, u, ok, rs, e, q⟩ := h
  unfold sumN at e
  split at e
  · rw [Option.map_eq_some_iff] at e
    obtain ⟨bs, hb, rfl⟩ := e
    obtain ⟨v, rfl, rv⟩ := rs.one
    obtain ⟨a, xs, rfl, l, r'⟩ := rv.lst'
    rw [ints_eq hb] at r'
    have e1 := Reps.ofInts r'; subst e1
    exact cr_sum hc pins s sg H _ us Q I r ⟨a, bs, rfl, l.sq, q _ H (Same.refl H) (rInt _)⟩
  · cases e
    obtain ⟨v, rfl, rv⟩ := rs.one
    obtain ⟨a, rfl, l⟩ := rv.scr'
    exact cr_sum hc pins s sg H _ us Q I r ⟨a, _, rfl, l.sq, q _ H (Same.refl H) (rInt _)⟩
  · cases e
theorem c_tup : CallR X (.type "tuple") (PN X.K tupN) := by
  intro pins s sg H vs us Q I r h
  obtain ⟨G, io, st, ws, u, ok, rs, e, q⟩ := h
  unfold tupN at e
  split at e
  · cases e
    obtain ⟨v, rfl, rv⟩ := rs.one
    obtain ⟨a, xs, rfl, l, r'⟩ := rv.lst'
    exact call_tuple_of pins s sg H _ us Q I r ⟨a, xs, rfl, .inl ⟨l.sq, fun p hp => q _ _ (same_upd hp) (ok.newT hp r')⟩⟩
  · cases e
    obtain ⟨v, rfl, rv⟩ := rs.one
    obtain ⟨a, xs, rfl, l, r'⟩ := rv.tup'
    exact call_tuple_of pins s sg H _ us Q I r ⟨a, xs, rfl, .inr ⟨l.sq, q _ H (Same.refl H) (rTup l r')⟩⟩
  · cases e
theorem c_int : CallR X (.type "int") (PN X.K intN) := by
  intro pins s sg H vs us Q I r h
  obtain ⟨G, io, st, ws, u, ok, rs, e, q⟩ := h
  unfold intN at e
  split at e
  · cases e
    obtain ⟨v, rfl, rv⟩ := rs.one
    have e1 := rv.int'; subst e1
    exact call_int1 pins s sg H _ us Q I r (.inl ⟨_, rfl, q _ H (Same.refl H) (rInt _)⟩)
  · cases e
    obtain ⟨v, rfl, rv⟩ := rs.one
    have e1 := rv.bl'; subst e1
    exact call_int1 pins s sg H _ us Q I r (.inr ⟨_, rfl, q _ H (Same.refl H) (rInt _)⟩)
  · cases e
/-- list(x): a new one -/
def lstL : List U → Option (List U)
  | [.lst us] => some us
  | [.tup us] => some us
  | [.scr ns] => some (ns.map U.int)
  | _ => none
variable {xs : XS} {wx : WX} {pos : Pos}
theorem l_list {x : Str} {p : Pos} {e : Expr} {es : List Expr} {f : DA} (hx : x = "list") (hg : Gl X x) (hm : X.mg x = none) (ha : PA X (e :: es) (tDA X.K xs wx f)) (he : starEach (e :: es) X.env = (false, eval e X.env) :: starEach es X.env := by rfl) (hpl : (backTo pos (starEach es X.env)).any (·.1) = false := by rfl) :
    PE X (.Call (.Name x p) (e :: es) [] pos) (tDL X.K xs wx (itA lstL f)) := by
  subst hx
  refine pe_imp (pe_callTy call_list_of hg hm (by decide +kernel) ha (by decide) (by decide) he hpl) fun sg H Q h => ?_
  obtain ⟨G, io, st, env, ok, er, w⟩ := h
  refine ⟨G, io, st, env, ok, er, w.bind.impR fun st1 io1 H1 us ok1 e1 w1 vs rvs => ?_⟩
  obtain ⟨ws, hu, w2⟩ := w1.pure
  unfold lstL at hu
  split at hu
  · cases hu
    obtain ⟨v, rfl, rv⟩ := rvs.one
    obtain ⟨a, xs, rfl, l, r'⟩ := rv.lst'
    exact ⟨a, xs, rfl, .inl l.sq, fun p hp => w2.here ok1 xs p r' hp⟩
  · cases hu
    obtain ⟨v, rfl, rv⟩ := rvs.one
    obtain ⟨a, xs, rfl, l, r'⟩ := rv.tup'
    exact ⟨a, xs, rfl, .inr l.sq, fun p hp => w2.here ok1 xs p r' hp⟩
  · cases hu
    obtain ⟨v, rfl, rv⟩ := rvs.one
    obtain ⟨a, rfl, l⟩ := rv.scr'
    exact ⟨a, _, rfl, .inl l.sq, fun p hp => w2.here ok1 _ p (Reps.ints _) hp⟩
  · cases hu
end
end D
namespace D
open PySem L2
/-! ### a def of the text, by its name -/
structure Fn (P : Program) (w : World) (K : PySem.W.Frag) (mg : Str → Option Value) (base : Heap) (xs : XS) (x : Str) (k n : Nat) (g : List U → Store → Rs U) : Prop where
  ex : ∃ f fd ps, mg x = some (.ref f) ∧ PySem.W.keepIn K (.ref f) = true ∧ Binds K fd ps [] ∧ FnOk P w K mg base (L2.CX P w) k f fd ps (spD K xs n g)
  bad : ∀ us st, us.length ≠ n → g us st = .bad
theorem Fn.imp {P : Program} {w : World} {K : PySem.W.Frag} {mg : Str → Option Value} {base : Heap} {xs : XS} {x : Str} {k n : Nat} {g g' : List U → Store → Rs U} (h : Fn P w K mg base xs x k n g) (e : ∀ us st, g' us st ≠ .bad → g us st = g' us st) (hb : ∀ us st, us.length ≠ n → g' us st = .bad) : Fn P w K mg base xs x k n g' := by
  obtain ⟨⟨f, fd, ps, h1, h2, h3, h4⟩, h5⟩ := h
  refine ⟨⟨f, fd, ps, h1, h2, h3, h4.imp fun vs H Q E q => ?_⟩, hb⟩
  obtain ⟨hl, G, io, st, us, ok, r, w⟩ := q
  refine ⟨hl, G, io, st, us, ok, r, ?_⟩
  rw [e us st (Rs.of_bad w)]
  exact w
section
variable {X : Cx} {xs : XS} {wx : WX} {pos : Pos}
theorem d_callF {k n : Nat} {x : Str} {p : Pos} {e : Expr} {es : List Expr} {g : List U → Store → Rs U} {fa : DA} (F : Fn X.prog X.w X.K X.mg X.base xs x k n g) (tk : Takes X wx) (hr : Room k X.A) (hg : Gl X x)
    (ha : PA X (e :: es) (tDA X.K xs wx fa)) (hdb : (x == ("__debug__" : Str)) = false := by decide)
    (he : starEach (e :: es) X.env = (false, eval e X.env) :: starEach es X.env := by rfl) (hpl : (backTo pos (starEach es X.env)).any (·.1) = false := by rfl) : PE X (.Call (.Name x p) (e :: es) [] pos) (tD X.K xs wx (appU g fa)) := by
  obtain ⟨⟨f, fd, ps, h1, h2, h3, h4⟩, h5⟩ := F
  exact d_call tk h4 hr hg h1 h2 h3 h5 ha hdb he hpl
theorem d_callF0 {k : Nat} {x : Str} {p : Pos} {g : List U → Store → Rs U} (F : Fn X.prog X.w X.K X.mg X.base xs x k 0 g) (tk : Takes X wx) (hr : Room k X.A) (hg : Gl X x) (hdb : (x == ("__debug__" : Str)) = false := by decide) : PE X (.Call (.Name x p) [] [] pos) (tD X.K xs wx (appU g anil)) := by
  obtain ⟨⟨f, fd, ps, h1, h2, h3, h4⟩, h5⟩ := F
  refine pe_imp (⟨fun pins s sg H Q I h => ?_⟩ : PE X _ (fun sg H Q => spD X.K xs 0 g [] H Q (WE wx sg))) fun sg H Q h => ?_
  · refine wpAny_Call_Name_kw (ld_glob I hg h1 ?_ hdb)
    exact PySem.W.callWith_K0 I.kIn h2 (run_fnSD (E := WE wx) (us := []) (dvs := []) h4 hr h3 .nil (passAt tk sg) I .nil h)
  · obtain ⟨G, io, st, env, ok, er, w⟩ := h
    exact ⟨rfl, G, io, st, [], ok, .nil, w⟩
theorem hvs_N {i : Nat} {vs : List Nat} (h : i ∈ vs) : ∀ u l, tgN i u = some l → ∀ p ∈ l, p.1 ∈ vs := fun u l e p hp => by
  cases e
  have : p = (i, u) := by simpa using hp
  subst this; exact h
theorem hvs_T {is vs : List Nat} (h : ∀ i ∈ is, i ∈ vs) : ∀ u l, tgT is u = some l → ∀ p ∈ l, p.1 ∈ vs := fun u l e p hp => by
  unfold tgT at e
  split at e
  · split at e
    · cases e
      exact h _ (List.of_mem_zip hp).1
    · cases e
  · cases e
theorem d_ty {x : Str} {n : String} {p : Pos} (hg : Gl X x) (hm : X.mg x = none) (hv : bootBuiltins x = some (.type n)) (hn : x ≠ "__name__" := by decide) (hd : (x == ("__debug__" : Str)) = false := by decide) : PE X (.Name x p) (tD X.K xs wx (cst (.ty n))) :=
  d_cst (pe_bltn hg hm hv (v := .ty n) rfl hn hd) fun _ _ _ => by unfold Rep; rfl
def neg1D (f : DE) : DE := fun env st => (f env st).bind fun u st1 => Rs.of (neg1 u) st1
theorem d_neg {a : Expr} {f : DE} (h : PE X a (tD X.K xs wx f)) : PE X (.UnaryOp .USub a pos) (tD X.K xs wx (neg1D f)) := pe_imp (pe_un un_neg h) fun sg H Q q => by
  obtain ⟨G, io, st, env, ok, er, w⟩ := q
  refine ⟨G, io, st, env, ok, er, w.bind.impR fun st1 io1 H1 u ok1 e1 w1 v rv => ?_⟩
  cases u with
  | int i => exact ⟨i, rv.int', Wants.here (a := U.int (-i)) w1 ok1 _ (rInt _)⟩
  | _ => exact w1.elim
/-! ### dict displays -/
def kOf : U → Option Key
  | .int i => some (.inl i)
  | .str x => some (.inr x)
  | _ => none
def putG {A : Type} (kvs : List (Key × A)) (k : Key) (v : A) : List (Key × A) := if (kvs.any fun kv => decide (kv.1 = k)) = true then kvs.map (fun kv => if kv.1 = k then (kv.1, v) else kv) else kvs ++ [(k, v)]
def mergeG {A : Type} (kvs more : List (Key × A)) : List (Key × A) := more.foldl (fun acc kv => putG acc kv.1 kv.2) kvs
def mkD (kvs : List (Key × U)) : U := .dct (kvs.map fun p => kU p.1) (kvs.map (·.2))
def keyed : List (U × U) → Option (List (Key × U))
  | [] => some []
  | p :: r => match kOf p.1, keyed r with
    | some k, some l => some ((k, p.2) :: l)
    | _, _ => none
def dispU (l : List (U × U)) : Option U := (keyed l).bind fun kvs => if kvs.length ≤ 15 then some (mkD (mergeG [] kvs)) else none
def pairsE : List (DE × DE) → Env → Store → Rs (List (U × U))
  | [], _, st => .ok [] st
  | p :: r, env, st => (p.1 env st).bind fun k st1 => (p.2 env st1).bind fun v st2 => (pairsE r env st2).bind fun l st3 => .ok ((k, v) :: l) st3
def dispD (ps : List (DE × DE)) : DE := fun env st => (noEx (pairsE ps env st)).bind fun l st1 => Rs.of (dispU l) st1
/-- keyed values -/
def KR (K : PySem.W.Frag) (W : Addr → Prop) (io : List Addr) (H : Hp) : List (Key × U) → List (Key × V) → Prop := Paired fun p q => p.1 = q.1 ∧ Rep K W io H p.2 q.2
section
variable {K : PySem.W.Frag} {W : Addr → Prop} {io : List Addr} {H : Hp}
theorem KR.any {k : Key} : ∀ {a : List (Key × U)} {b : List (Key × V)}, KR K W io H a b → (a.any fun kv => decide (kv.1 = k)) = (b.any fun kv => decide (kv.1 = k))
  | _, _, .nil => rfl
  | _, _, .cons h t => by rw [List.any_cons, List.any_cons, KR.any t, h.1]
theorem KR.app : ∀ {a a' : List (Key × U)} {b b' : List (Key × V)}, KR K W io H a b → KR K W io H a' b' → KR K W io H (a ++ a') (b ++ b')
  | _, _, _, _, .nil, h => h
  | _, _, _, _, .cons h t, h' => .cons h (KR.app t h')
theorem KR.upd {k : Key} {u : U} {v : V} (r : Rep K W io H u v) : ∀ {a : List (Key × U)} {b : List (Key × V)}, KR K W io H a b → KR K W io H (a.map (fun kv => if kv.1 = k then (kv.1, u) else kv)) (b.map (fun kv => if kv.1 = k then (kv.1, v) else kv))
  | _, _, .nil => .nil
  | _, _, .cons h t => by
    rw [List.map_cons, List.map_cons]
    refine .cons ?_ (KR.upd r t)
    obtain ⟨h1, h2⟩ := h
    rw [h1]
    split
    · exact ⟨rfl, r⟩
    · exact ⟨h1, h2⟩
theorem KR.put {a : List (Key × U)} {b : List (Key × V)} (h : KR K W io H a b) {k : Key} {u : U} {v : V} (r : Rep K W io H u v) : KR K W io H (putG a k u) (putK b k v) := by
  unfold putG putK
  rw [h.any]
  split
  · exact h.upd r
  · exact h.app (.cons ⟨rfl, r⟩ .nil)
theorem KR.merge : ∀ {m : List (Key × U)} {n : List (Key × V)} {a : List (Key × U)} {b : List (Key × V)}, KR K W io H m n → KR K W io H a b → KR K W io H (mergeG a m) (mergeK b n)
  | _, _, _, _, .nil, h => h
  | _, _, a, b, .cons (a := p) (b := q) h t, h' => by
    have e := h'.put (k := p.1) h.2
    have e2 : KR K W io H (putG a p.1 p.2) (putK b q.1 q.2) := by rw [← h.1]; exact e
    show KR K W io H (mergeG (putG a p.1 p.2) _) (mergeK (putK b q.1 q.2) _)
    exact KR.merge t e2
theorem KR.keys : ∀ {a : List (Key × U)} {b : List (Key × V)}, KR K W io H a b → (a.map fun p => kU p.1) = (b.map fun p => kU p.1)
  | _, _, .nil => rfl
  | _, _, .cons h t => by rw [List.map_cons, List.map_cons, KR.keys t, h.1]
theorem KR.vals : ∀ {a : List (Key × U)} {b : List (Key × V)}, KR K W io H a b → Reps K W io H (a.map (·.2)) (b.map (·.2))
  | _, _, .nil => .nil
  | _, _, .cons h t => .cons h.2 (KR.vals t)
theorem KR.len : ∀ {a : List (Key × U)} {b : List (Key × V)}, KR K W io H a b → a.length = b.length
  | _, _, .nil => rfl
  | _, _, .cons _ t => by simp [KR.len t]
theorem Ok.newD {G : Addr → Prop} {st : Store} (ok : Ok K G io st H) {p : Addr} (hp : H p = none) {us : List (Key × U)} {vs : List (Key × V)} (r : KR K (Wf G io) io H us vs) : Rep K (Wf G io) io (L2.upd H p (.dK vs)) (mkD us) (.ref p) := by
  unfold mkD Rep
  exact ⟨p, vs.map (·.2), rfl, ⟨ok.fresh hp, .inl ⟨vs, .inl upd_same, r.keys, rfl⟩⟩, r.vals.ext (Ext.same (same_upd hp))⟩
theorem kOf_rep {u : U} {v : V} {k : Key} (h : Rep K W io H u v) (e : kOf u = some k) : v = kV k := by
  cases u with
  | int i => cases e; rw [h.int']; rfl
  | str i => cases e; rw [h.str']; rfl
  | _ => cases e
theorem keyed_rep : ∀ {l : List (U × U)} {kvs : List (Key × U)} {ps : List (V × V)}, keyed l = some kvs → Paired (fun (p : U × U) (q : V × V) => Rep K W io H p.1 q.1 ∧ Rep K W io H p.2 q.2) l ps → ∃ kvv : List (Key × V), ps = kvv.map (fun kv => (kV kv.1, kv.2)) ∧ KR K W io H kvs kvv
  | [], _, _, e, .nil => by cases e; exact ⟨[], rfl, .nil⟩
  | p :: _, _, q :: _, e, .cons h t => by
    unfold keyed at e
    split at e
    · rename_i k l e1 e2
      cases e
      obtain ⟨kvv, h1, h2⟩ := keyed_rep e2 t
      refine ⟨(k, q.2) :: kvv, ?_, .cons ⟨rfl, h.2⟩ h2⟩
      rw [List.map_cons, h1, ← kOf_rep h.1 e1]
    · cases e
end
theorem pairs_read {K : PySem.W.Frag} {G : Addr → Prop} {sg : L2.St} {env : Env} {XR} : ∀ (ps : List (DE × DE)) {io : List Addr} {st : Store} {H : Hp} {Q : List (V × V) → Hp → Prop}, Ok K G io st H → EnvRep K G io H env sg →
    Wants K G io H (fun _ io1 H1 l => ∀ pvs, Paired (fun (p : U × U) (q : V × V) => Rep K (Wf G io1) io1 H1 p.1 q.1 ∧ Rep K (Wf G io1) io1 H1 p.2 q.2) l pvs → Q pvs H1) XR (noEx (pairsE ps env st)) →
    tPairs (ps.map fun p => (tD K xs wx p.1, tD K xs wx p.2)) sg H Q
  | [], io, st, H, Q, ok, er, w => Wants.here (a := ([] : List (U × U))) w ok [] .nil
  | p :: r, io, st, H, Q, ok, er, w => by
    unfold pairsE at w
    rw [noEx_bind] at w
    refine ⟨G, io, st, env, ok, er, (Wants.noEx w.bind).impR fun st1 io1 H1 k ok1 e1 w1 x rx => ?_⟩
    rw [noEx_bind] at w1
    have er1 := er.ext ok.dj e1
    refine ⟨G, io1, st1, env, ok1, er1, (Wants.noEx w1.bind).impR fun st2 io2 H2 v ok2 e2 w2 y ry => ?_⟩
    rw [noEx_bind] at w2
    refine pairs_read r ok2 (er1.ext ok1.dj e2) (w2.bind.impR fun st3 io3 H3 l ok3 e3 w3 pvs hp => ?_)
    exact Wants.here (a := (k, v) :: l) w3 ok3 _ (.cons ⟨(rx.ext e2).ext e3, ry.ext e3⟩ hp)
theorem d_dict0 : PE X (.Dict [] [] pos) (tD X.K xs wx (cst (.dct [] []))) := pe_imp pe_dnewK fun sg H Q h => by
  obtain ⟨G, io, st, env, ok, er, w⟩ := h
  exact fun p hp => w.hereS ok (same_upd hp) _ (ok.newD (us := []) hp .nil)
theorem d_disp {keys : List (Option Expr)} {values : List Expr} {ps : List (DE × DE)} (h : PPs X pos keys values (ps.map fun p => (tD X.K xs wx p.1, tD X.K xs wx p.2))) (hall : keys.all (·.isSome) = true := by rfl) (hl : keys.length = values.length := by rfl) (h0 : keys ≠ [] := by simp) (h15 : keys.length ≤ 15 := by decide) :
    PE X (.Dict keys values pos) (tD X.K xs wx (dispD ps)) := pe_imp (pe_disp h hall hl h0 h15) fun sg H Q q D hD => by
  obtain ⟨G, io, st, env, ok, er, w⟩ := q
  have nG : ¬ Wf G io D := ok.fresh hD
  have hH : hid (L2.upd H D (.dK [])) D = H := by rw [hid_upd, hid_none hD]
  have okE : Ok X.K (Gd G D) io st (L2.upd H D (.dK [])) := Ok.enter (by rw [hH]; exact ok) upd_same (fun _ z => nomatch z)
  have erE : EnvRep X.K (Gd G D) io (L2.upd H D (.dK [])) env sg := EnvRep.enter (by rw [hH]; exact er)
  have nD : D ∉ io := fun z => nG (.inr z)
  refine pairs_read (XR := XW xs wx sg) ps okE erE ?_
  have w1 := w.bind
  cases q : noEx (pairsE ps env st) with
  | bad => rw [q] at w1; exact w1.elim
  | ex c us st1 =>
    cases z : pairsE ps env st with
    | ok a b => rw [z] at q; cases q
    | ex a b c => rw [z] at q; cases q
    | bad => rw [z] at q; cases q
  | ok l st1 =>
    rw [q] at w1
    intro io1 H1 ok1 e1 pvs hp
    have d1 : H1 D = some (.dK []) := e1.keep D _ nD upd_same
    have ok2 := ok1.leave (D := D) fun z => nG (.inl z)
    have e2 : Ext io H io1 (hid H1 D) := by
      have := Ext.leave (D := D) e1
      rw [hH] at this
      exact this
    obtain ⟨u, hu, w2⟩ := (w1 io1 _ ok2 e2).pure
    unfold dispU at hu
    cases hk : keyed l with
    | none => rw [hk] at hu; cases hu
    | some kvs =>
      rw [hk] at hu
      have hu : (if kvs.length ≤ 15 then some (mkD (mergeG [] kvs)) else none) = some u := hu
      split at hu
      · rename_i hz
        cases hu
        obtain ⟨kvv, e3, r3⟩ := keyed_rep hk hp
        refine ⟨d1, kvv, e3, by rw [← r3.len]; exact hz, ?_⟩
        have r4 : KR X.K (Wf G io1) io1 (hid H1 D) kvs kvv := by
          clear e3 hz hk hp w2 hu
          induction r3 with
          | nil => exact .nil
          | cons h t ih => exact .cons ⟨h.1, h.2.mono mono_leave⟩ ih
        have e5 : L2.upd H1 D (.dK (mergeK [] kvv)) = L2.upd (hid H1 D) D (.dK (mergeK [] kvv)) := by
          funext b
          by_cases e : b = D
          · subst e; rw [upd_same, upd_same]
          · rw [upd_ne e, upd_ne e, hid_ne e]
        rw [e5]
        exact w2.hereS ok2 (same_upd hid_same) _ (ok2.newD hid_same (r4.merge .nil))
      · cases hu
end
end D
namespace D
open PySem L2
theorem bt_len : bootBuiltins "len" = some (.builtin "len") := by decide +kernel
theorem bt_isinstance : bootBuiltins "isinstance" = some (.builtin "isinstance") := by decide +kernel
theorem bt_max : bootBuiltins "max" = some (.builtin "max") := by decide +kernel
theorem bt_min : bootBuiltins "min" = some (.builtin "min") := by decide +kernel
theorem bt_abs : bootBuiltins "abs" = some (.builtin "abs") := by decide +kernel
theorem bt_all : bootBuiltins "all" = some (.builtin "all") := by decide +kernel
theorem bt_any : bootBuiltins "any" = some (.builtin "any") := by decide +kernel
theorem bt_sum : bootBuiltins "sum" = some (.builtin "sum") := by decide +kernel
theorem bt_sorted : bootBuiltins "sorted" = some (.builtin "sorted") := by decide +kernel
theorem bt_tuple : bootBuiltins "tuple" = some (.type "tuple") := by decide +kernel
theorem bt_list : bootBuiltins "list" = some (.type "list") := by decide +kernel
theorem bt_int : bootBuiltins "int" = some (.type "int") := by decide +kernel
theorem bt_str : bootBuiltins "str" = some (.type "str") := by decide +kernel
theorem bt_bool : bootBuiltins "bool" = some (.type "bool") := by decide +kernel
theorem bt_dict : bootBuiltins "dict" = some (.type "dict") := by decide +kernel
theorem bt_set : bootBuiltins "set" = some (.type "set") := by decide +kernel
theorem u65 {k : Nat} {A : Around} (hr : Room k A) : A.units + 65 < cLine := by have := hr.un; omega
section
variable {X : Cx} {xs : XS} {wx : WX} {pos : Pos}
theorem dv (i : Nat) {x : Str} (hN : X.N[i]? = some x := by rfl) (hv : Vis X.env.scope x := by first | exact Or.inl rfl | exact Or.inr (Or.inl rfl) | exact Or.inr (Or.inr rfl)) (hd : (x == ("__debug__" : Str)) = false := by decide) (hcd : (x == ("__classdict__" : Str)) = false := by decide) :
    PE X (.Name x pos) (tD X.K xs wx (var i)) := d_var i hN hv hd hcd
theorem gn (i : Nat) {x : Str} (hN : X.N.Nodup) (hi : X.N[i]? = some x := by rfl) (hx : Loc X.env.scope x := by first | exact Or.inl rfl | exact Or.inr rfl) (hf : X.fn x = true ∨ X.env.scope.names.lookup x = some .local := by first | exact .inl rfl | exact .inr rfl) : PG X (.Name x pos) (gD X.K (tgN i)) := g_name hN hi hx hf
theorem gc {x : Str} {p : Pos} (i : Nat) {es : List Expr} {is : List Nat} (t : GNames X es is) (hi : X.N[i]? = some x := by rfl) (hx : Loc X.env.scope x := by first | exact Or.inl rfl | exact Or.inr rfl) (hf : X.fn x = true ∨ X.env.scope.names.lookup x = some .local := by first | exact .inl rfl | exact .inr rfl) : GNames X (.Name x p :: es) (i :: is) := .cons hi hx hf t
theorem sset (i : Nat) {x : Str} {e : Expr} {f : DE} {pos' : Pos} (hN : X.N.Nodup) (he : PE X e (tD X.K xs wx f)) (hi : X.N[i]? = some x := by rfl) (hx : Loc X.env.scope x := by first | exact Or.inl rfl | exact Or.inr rfl) (hs : swapsWith e (some (.Name x pos')) pos.line X.env = Pure.pure false := by rfl)
    (hf : X.fn x = true ∨ X.env.scope.names.lookup x = some .local := by first | exact .inl rfl | exact .inr rfl) : PS X (.Assign [.Name x pos'] e pos) (tDS X.K xs wx (sSet i f)) := s_set hN hi hx he hs hf
theorem sown (i : Nat) {x : Str} {e : Expr} {f : DL} {pos' : Pos} (hN : X.N.Nodup) (he : PE X e (tDL X.K xs wx f)) (hi : X.N[i]? = some x := by rfl) (hx : Loc X.env.scope x := by first | exact Or.inl rfl | exact Or.inr rfl) (hs : swapsWith e (some (.Name x pos')) pos.line X.env = Pure.pure false := by rfl)
    (hf : X.fn x = true ∨ X.env.scope.names.lookup x = some .local := by first | exact .inl rfl | exact .inr rfl) : PS X (.Assign [.Name x pos'] e pos) (tDS X.K xs wx (sOwn i f)) := s_own hN hi hx he hs hf
theorem sapp (i : Nat) {x : Str} {e : Expr} {f : DE} {p1 p2 : Pos} (he : PE X e (tD X.K xs wx f)) (hN : X.N[i]? = some x := by rfl) (hv : Vis X.env.scope x := by first | exact Or.inl rfl | exact Or.inr (Or.inl rfl) | exact Or.inr (Or.inr rfl)) (hd : (x == ("__debug__" : Str)) = false := by decide) (hcd : (x == ("__classdict__" : Str)) = false := by decide)
    (hfew : ((backTo pos (starEach [e] X.env)).all (fun x => !x.1) && (backToKw pos (keywordEach [] X.env)).all (fun x => x.1.isSome) && decide ([e].length + ([] : List Keyword).length + (if ([] : List Keyword).isEmpty then 0 else 1) < 30)) = true := by rfl)
    (hline : (p1.endLine == pos.line) = true := by rfl) (hs : starEach (e :: []) X.env = (false, eval e X.env) :: starEach [] X.env := by rfl) (hplain : (backTo pos (starEach [] X.env)).any (·.1) = false := by rfl)
    (hsw : swapsWith (.Call (.Attribute (.Name x p2) "append" p1) [e] [] pos) none pos.line X.env = Pure.pure false := by rfl) {pos2 : Pos} :
    PS X (.Expr (.Call (.Attribute (.Name x p2) "append" p1) [e] [] pos) pos2) (tDS X.K xs wx (sApp i f)) := s_app hN hv he hd hcd hfew hline hs hplain hsw
/-- a list of the frame's own is never written from here on -/
def frz1 (s : Sl) : Sl := match s with
  | .own us => .val (.lst us)
  | s => s
def frzE (i : Nat) (env : Env) : Env := match env[i]? with
  | some s => env.set i (frz1 s)
  | none => env
def frzS (i : Nat) (f : DS) : DS := fun env st => f (frzE i env) st
theorem Fr.freeze {K : PySem.W.Frag} {F : Addr → Prop} {io : List Addr} {st : Store} {env : Env} {sg : L2.St} {H : Hp} (f : Fr K F io st env sg H) (i : Nat) : Fr K F io st (frzE i env) sg H ∧ ExtO io H (Ow env sg) io H (Ow (frzE i env) sg) := by
  unfold frzE
  split
  case h_2 => exact ⟨f, ExtO.refl _ _ _⟩
  rename_i s hs
  have hi : i < env.length := (List.getElem?_eq_some_iff.mp hs).1
  cases s with
  | un =>
    have e : env.set i (frz1 .un) = env := by
      apply List.ext_getElem?
      intro j
      by_cases hj : i = j
      · subst hj; rw [List.getElem?_set_self hi, hs]; rfl
      · rw [List.getElem?_set_ne hj]
    rw [e]; exact ⟨f, ExtO.refl _ _ _⟩
  | val u =>
    have e : env.set i (frz1 (.val u)) = env := by
      apply List.ext_getElem?
      intro j
      by_cases hj : i = j
      · subst hj; rw [List.getElem?_set_self hi, hs]; rfl
      · rw [List.getElem?_set_ne hj]
    rw [e]; exact ⟨f, ExtO.refl _ _ _⟩
  | own us =>
    obtain ⟨a, vs, e1, e2, r⟩ := f.slot hs
    have ow : ∀ b, Ow (env.set i (.val (.lst us))) sg b → Ow env sg b ∧ b ≠ a := fun b ⟨j, ws, h1, h2⟩ => by
      by_cases hj : i = j
      · subst hj; rw [List.getElem?_set_self hi] at h1; cases h1
      · rw [List.getElem?_set_ne hj] at h1
        refine ⟨⟨j, ws, h1, h2⟩, fun e => hj ?_⟩
        subst e
        exact f.dd i j b us ws hs h1 e1 h2
    have ex : ExtO io H (Ow env sg) io H (Ow (env.set i (.val (.lst us))) sg) := ⟨⟨[], by simp, fun _ h => nomatch h⟩, fun _ _ _ _ h => h, fun _ o h => ⟨o, h⟩, fun b h => .inl (ow b h).1⟩
    have m := ex.mono (F := F)
    have oa : Ow env sg a := ⟨i, us, hs, e1⟩
    refine ⟨⟨f.ok.mono fun b h => h.imp id fun z => (ow b z).1, ⟨by simp [f.er.len], fun j s o h1 h2 => ?_⟩, fun b h => f.nF b (ow b h).1, fun j k b us1 us2 h1 h2 h3 h4 => ?_⟩, ex⟩
    · by_cases hj : i = j
      · subst hj
        rw [List.getElem?_set_self hi] at h1
        rw [e1] at h2
        cases h1; cases h2
        refine ⟨.ref a, rfl, ?_⟩
        unfold Rep
        refine ⟨a, vs, rfl, ⟨e2, ?_⟩, r.mono m⟩
        rintro ((z | z) | z)
        · exact f.nF a oa z
        · exact (ow a z).2 rfl
        · exact f.ok.dj a z (.inr oa)
      · have g1 := h1
        rw [List.getElem?_set_ne hj] at h1
        have q := f.er.sl j s o h1 h2
        cases s with
        | un => trivial
        | val u' => obtain ⟨v', q1, q2⟩ := q; exact ⟨v', q1, q2.mono m⟩
        | own ws =>
          obtain ⟨b, vs1, q1, q2, q3, q4⟩ := q
          subst q1
          exact ⟨b, vs1, rfl, .inr ⟨j, ws, g1, h2⟩, q3, q4.mono m⟩
    · have back : ∀ (j : Nat) (w : List U), (env.set i (.val (.lst us)))[j]? = some (.own w) → env[j]? = some (.own w) := fun j w h => by
        by_cases hj : i = j
        · subst hj; rw [List.getElem?_set_self hi] at h; cases h
        · rw [List.getElem?_set_ne hj] at h; exact h
      exact f.dd j k b us1 us2 (back j us1 h1) (back k us2 h2) h3 h4
theorem s_frz (i : Nat) {s : Stmt} {f : DS} (h : PS X s (tDS X.K xs wx f)) : PS X s (tDS X.K xs wx (frzS i f)) := ps_imp h fun D sg H q => by
  obtain ⟨F, io, st, env, fr, w⟩ := q
  obtain ⟨f1, e1⟩ := fr.freeze i
  exact ⟨F, io, st, frzE i env, f1, WantsS.later w e1⟩
end
/-! ### facts of the top, to be asked of the written part -/
theorem fn_mk {P : Program} {w : World} {K : PySem.W.Frag} {mg : Str → Option Value} {base : Heap} {xs : XS} {x : Str} {s : Stmt} {k n m : Nat} {body : DS} {h : Heap} (XK : K.In h) (G : h.Ns mainGlobals mg) {f : Addr} {od an : Option Addr} {sl : Array (Option Value)} {oc kV dc pm cd ct : Value} {N ps : List Str}
    (a : PySem.W.nsIn K mainGlobals x = some (some (.ref f))) (l : K.lookup f = some ⟨oc, od, .func (PySem.W.fnOf x x (defArgs s) (defBody s) (defScope s) .none kV dc pm an cd ct), sl⟩) (c : PySem.W.codeIn K cd x = true) (kp : PySem.W.keepIn K (.ref f) = true)
    (S : FnScope N ps (defScope s)) (hb : ∀ (us : List Value), us.length = ps.length → bindArgs (PySem.W.fnOf x x (defArgs s) (defBody s) (defScope s) .none kV dc pm an cd ct) ⟨us, []⟩ = Pure.pure (ps.zip us)) (hn : ps.length = n) (hm : N.length = m)
    (B : ∀ f fd, Fun K x x s f fd → FnOk P w K mg base (L2.CX P w) k f fd ps (spD K xs ps.length (runB N.length ps.length body))) : Fn P w K mg base xs x k n (runB m n body) := by
  subst hn; subst hm
  have F := fun_mk (st := s) l c kp
  exact ⟨⟨f, _, ps, PySem.W.mg_of XK G a, kp, .all hb, B f _ F⟩, fun us st h => runB_bad us st h⟩
end D
namespace D
open PySem L2
/-- no exception at all -/
def noXS : XS := fun _ _ _ _ _ => False
theorem law_sp {K : PySem.W.Frag} {xs : XS} {H : Hp} {a : Addr} {ns : List Int} {f : List U → Store → Rs U} (hS : SqL K H a (ns.map V.int)) (h : ∃ st', f [.scr ns] [] = .ok (.bl true) st') : spD K xs 1 f [.ref a] H (fun v _ => v = .bl true) fun _ _ _ => False := by
  obtain ⟨st', e⟩ := h
  refine ⟨rfl, fun _ => False, [], [], [.scr ns], ⟨List.nodup_nil, fun _ h => (nomatch h), fun a h => h.elim False.elim (fun z => nomatch z), rfl, fun n ob a h => nomatch h⟩, .cons ?_ .nil, ?_⟩
  · unfold Rep
    exact ⟨a, rfl, hS.imp (fun x => ⟨x, fun z => z.elim id fun z => nomatch z⟩) id⟩
  · rw [e]
    exact fun io' H' _ _ v hv => hv.bl'
theorem cx_no {P : Program} {w : World} {outer : List PySem.Env} {H : Hp} {s : Shared} {e : Value} {s' : Shared} (h : L2.CX P w outer H s (fun _ _ _ => False) e s') : False := by
  obtain ⟨_, _, _, _, _, _, _, _, _, _, _, _, z⟩ := h
  exact z
section
variable {X : Cx} {xs : XS} {wx : WX} {pos : Pos}
theorem d_gInt {x : Str} {i : Int} (hg : Gl X x) (hm : ∃ t, X.mg x = some (Value.int i t)) (hd : (x == ("__debug__" : Str)) = false := by decide) : PE X (.Name x pos) (tD X.K xs wx (cst (.int i))) := by
  obtain ⟨t, hm⟩ := hm
  exact d_cst (pe_glob (v := .int i) hg hm ⟨t, rfl⟩ hd) fun _ _ _ => by unfold Rep; rfl
theorem d_gStr {x : Str} {i : Str} (hg : Gl X x) (hm : ∃ t, X.mg x = some (Value.str i t)) (hd : (x == ("__debug__" : Str)) = false := by decide) : PE X (.Name x pos) (tD X.K xs wx (cst (.str i))) := by
  obtain ⟨t, hm⟩ := hm
  exact d_cst (pe_glob (v := .str i) hg hm ⟨t, rfl⟩ hd) fun _ _ _ => by unfold Rep; rfl
end
end D
namespace D
open PySem L2
/-! ### running combinators -/
section
variable {A B : Type}
@[simp] theorem bind_ok (a : A) (st : Store) (k : A → Store → Rs B) : (Rs.ok a st).bind k = k a st := (rfl)
@[simp] theorem bind_ex (c : Str) (us : List (Str × U)) (st : Store) (k : A → Store → Rs B) : (Rs.ex c us st : Rs A).bind k = .ex c us st := (rfl)
@[simp] theorem bind_bad (k : A → Store → Rs B) : (Rs.bad : Rs A).bind k = .bad := (rfl)
@[simp] theorem of_some (a : A) (st : Store) : Rs.of (some a) st = .ok a st := (rfl)
@[simp] theorem of_none (st : Store) : Rs.of (none : Option A) st = .bad := (rfl)
@[simp] theorem out_ok (a : A) (st : Store) (env : Env) (k : A → Store → Out) : (Rs.ok a st).out env k = k a st := (rfl)
@[simp] theorem out_ex (c : Str) (us : List (Str × U)) (st : Store) (env : Env) (k : A → Store → Out) : (Rs.ex c us st : Rs A).out env k = .ex c us env st := (rfl)
@[simp] theorem out_bad (env : Env) (k : A → Store → Out) : (Rs.bad : Rs A).out env k = .bad := (rfl)
@[simp] theorem noEx_ok (a : A) (st : Store) : noEx (Rs.ok a st) = .ok a st := (rfl)
@[simp] theorem noEx_bad : noEx (Rs.bad : Rs A) = .bad := (rfl)
@[simp] theorem seq_nx (env : Env) (st : Store) (k : Env → Store → Out) : (Out.nx env st).seq k = k env st := (rfl)
@[simp] theorem seq_rt (u : U) (st : Store) (k : Env → Store → Out) : (Out.rt u st).seq k = .rt u st := (rfl)
@[simp] theorem seq_bk (env : Env) (st : Store) (k : Env → Store → Out) : (Out.bk env st).seq k = .bk env st := (rfl)
@[simp] theorem seq_ct (env : Env) (st : Store) (k : Env → Store → Out) : (Out.ct env st).seq k = .ct env st := (rfl)
@[simp] theorem seq_ex (c : Str) (us : List (Str × U)) (env : Env) (st : Store) (k : Env → Store → Out) : (Out.ex c us env st).seq k = .ex c us env st := (rfl)
@[simp] theorem seq_bad (k : Env → Store → Out) : Out.bad.seq k = .bad := (rfl)
@[simp] theorem fin_rt (u : U) (st : Store) : fin (.rt u st) = .ok u st := (rfl)
@[simp] theorem fin_nx (env : Env) (st : Store) : fin (.nx env st) = .ok .non st := (rfl)
@[simp] theorem fin_ex (c : Str) (us : List (Str × U)) (env : Env) (st : Store) : fin (.ex c us env st) = .ex c us st := (rfl)
@[simp] theorem fin_bad : fin .bad = .bad := (rfl)
end
section
variable (env : Env) (st : Store)
@[simp] theorem cst_ap (u : U) : cst u env st = .ok u st := (rfl)
theorem var_ap (i : Nat) : var i env st = match env[i]? with
  | some (.val u) => .ok u st
  | _ => .bad := (rfl)
@[simp] theorem var_zero (u : U) (e : Env) : var 0 (.val u :: e) st = .ok u st := (rfl)
@[simp] theorem var_succ (i : Nat) (s : Sl) (e : Env) : var (i + 1) (s :: e) st = var i e st := (rfl)
@[simp] theorem bin_ap (g : U → U → Option U) (a b : DE) : bin g a b env st = (a env st).bind fun u st1 => (b env st1).bind fun v st2 => Rs.of (g u v) st2 := (rfl)
@[simp] theorem anil_ap : anil env st = .ok [] st := (rfl)
@[simp] theorem acons_ap (a : DE) (b : DA) : acons a b env st = (a env st).bind fun u st1 => (b env st1).bind fun us st2 => .ok (u :: us) st2 := (rfl)
@[simp] theorem appN_ap (g : List U → Option U) (a : DA) : appN g a env st = (a env st).bind fun us st1 => Rs.of (g us) st1 := (rfl)
@[simp] theorem appU_ap (g : List U → Store → Rs U) (a : DA) : appU g a env st = (a env st).bind fun us st1 => g us st1 := (rfl)
@[simp] theorem tst_ap (a : DE) : tst a env st = (a env st).bind fun u st1 => match u with
  | .bl b => .ok b st1
  | _ => .bad := (rfl)
@[simp] theorem andT_ap (a b : DT) : andT a b env st = (a env st).bind fun c st1 => if c = true then b env st1 else .ok false st1 := (rfl)
@[simp] theorem orT_ap (a b : DT) : orT a b env st = (a env st).bind fun c st1 => if c = true then .ok true st1 else b env st1 := (rfl)
@[simp] theorem notT_ap (a : DT) : notT a env st = (a env st).bind fun c st1 => .ok (!c) st1 := (rfl)
@[simp] theorem yesT_ap : yesT env st = .ok true st := (rfl)
@[simp] theorem chain_ap (g h : U → U → Option U) (a b c : DE) : chain g h a b c env st = (a env st).bind fun u st1 => (b env st1).bind fun v st2 => match g u v with
  | some (.bl k) => if k = true then (c env st2).bind fun w st3 => Rs.of (h v w) st3 else .ok (.bl false) st2
  | _ => .bad := (rfl)
@[simp] theorem andV_ap (a b : DE) : andV a b env st = (a env st).bind fun u st1 => match u with
  | .bl c => if c = true then b env st1 else .ok (.bl false) st1
  | _ => .bad := (rfl)
@[simp] theorem orV_ap (a b : DE) : orV a b env st = (a env st).bind fun u st1 => match u with
  | .bl c => if c = true then .ok (.bl true) st1 else b env st1
  | _ => .bad := (rfl)
@[simp] theorem notV_ap (a : DE) : notV a env st = (a env st).bind fun u st1 => match u with
  | .bl c => .ok (.bl (!c)) st1
  | _ => .bad := (rfl)
@[simp] theorem ifE_ap (c : DT) (a b : DE) : ifE c a b env st = (c env st).bind fun t st1 => if t = true then a env st1 else b env st1 := (rfl)
@[simp] theorem neg1D_ap (a : DE) : neg1D a env st = (a env st).bind fun u st1 => Rs.of (neg1 u) st1 := (rfl)
@[simp] theorem newL_ap (f : DL) : newL f env st = (f env st).bind fun us st1 => .ok (.lst us) st1 := (rfl)
@[simp] theorem szDL_ap (f : DA) : szDL f env st = (f env st).bind fun us st1 => if us.length ≤ sizeLine then .ok us st1 else .bad := (rfl)
@[simp] theorem itemsD_ap (f : DE) : itemsD f env st = (f env st).bind fun u st1 => Rs.of (items u) st1 := (rfl)
@[simp] theorem itA_ap (g : List U → Option (List U)) (f : DA) : itA g f env st = (f env st).bind fun us st1 => Rs.of (g us) st1 := (rfl)
@[simp] theorem compD_ap (f : DL) (vs : List Nat) (t : Tg) (c : DT) (e : DE) : compD f vs t c e env st = (f env st).bind fun us st1 => if us.length ≤ sizeLine then noEx (compL t c e us (wipeE env vs) st1) else .bad := (rfl)
@[simp] theorem noO_ap : noO env st = .ok none st := (rfl)
@[simp] theorem soO_ap (f : DE) : soO f env st = (f env st).bind fun u st1 => match u with
  | .int i => .ok (some i) st1
  | _ => .bad := (rfl)
@[simp] theorem slD_ap (f : DE) (a b : DO) : slD f a b env st = (f env st).bind fun u st1 => (a env st1).bind fun lo st2 => (b env st2).bind fun hi st3 => Rs.of (sl3 u lo hi) st3 := (rfl)
@[simp] theorem dispD_ap (ps : List (DE × DE)) : dispD ps env st = (noEx (pairsE ps env st)).bind fun l st1 => Rs.of (dispU l) st1 := (rfl)
@[simp] theorem sNil_ap : sNil env st = .nx env st := (rfl)
@[simp] theorem sSeq_ap (f g : DS) : sSeq f g env st = (f env st).seq g := (rfl)
@[simp] theorem sExpr_ap (f : DE) : sExpr f env st = (f env st).out env fun _ st1 => .nx env st1 := (rfl)
@[simp] theorem sRet_ap (f : DE) : sRet f env st = (f env st).out env fun u st1 => .rt u st1 := (rfl)
@[simp] theorem sRetN_ap : sRetN env st = .rt .non st := (rfl)
@[simp] theorem sIf_ap (c : DT) (f g : DS) : sIf c f g env st = (c env st).out env fun b st1 => if b = true then f env st1 else g env st1 := (rfl)
@[simp] theorem sSet_ap (i : Nat) (f : DE) : sSet i f env st = (f env st).out env fun u st1 => .nx (env.set i (.val u)) st1 := (rfl)
@[simp] theorem sOwn_ap (i : Nat) (f : DL) : sOwn i f env st = (f env st).out env fun us st1 => if i < env.length then .nx (env.set i (.own us)) st1 else .bad := (rfl)
@[simp] theorem sApp_ap (i : Nat) (f : DE) : sApp i f env st = match env[i]? with
  | some (.own us) => (f env st).out env fun u st1 => if us.length < sizeLine then .nx (env.set i (.own (us ++ [u]))) st1 else .bad
  | _ => .bad := (rfl)
@[simp] theorem frzS_ap (i : Nat) (f : DS) : frzS i f env st = f (frzE i env) st := (rfl)
@[simp] theorem sFor_ap (f : DL) (t : Tg) (b : DS) : sFor f t b env st = (f env st).out env fun us st1 => forL t b us env st1 := (rfl)
@[simp] theorem setE_nil : setE env [] = env := (rfl)
@[simp] theorem setE_cons (p : Nat × U) (l : List (Nat × U)) : setE env (p :: l) = setE (env.set p.1 (.val p.2)) l := (rfl)
@[simp] theorem tgN_ap (i : Nat) (u : U) : tgN i u = some [(i, u)] := (rfl)
end
@[simp] theorem runB_ap (m n : Nat) (body : DS) (us : List U) (st : Store) : runB m n body us st = if us.length = n then fin (body (env0 m us) st) else .bad := (rfl)
@[simp] theorem env0_ap (m : Nat) (us : List U) : env0 m us = us.map Sl.val ++ List.replicate (m - us.length) .un := (rfl)
@[simp] theorem sizeLine_val : sizeLine = 16777216 := by decide +kernel
theorem for_nil (t : Tg) (b : DS) (env : Env) (st : Store) : forL t b [] env st = .nx env st := (rfl)
theorem comp_nil (t : Tg) (c : DT) (e : DE) (env : Env) (st : Store) : compL t c e [] env st = .ok [] st := (rfl)
theorem comp_cons (t : Tg) (c : DT) (e : DE) (u : U) (us : List U) (env : Env) (st : Store) : compL t c e (u :: us) env st = match t u with
    | none => .bad
    | some l => (c (setE env l) st).bind fun b st1 => if b = true then (e (setE env l) st1).bind fun v st2 => (compL t c e us env st2).bind fun r st3 => .ok (v :: r) st3 else compL t c e us env st1 := (rfl)
/-- a comprehension whose test and element are told -/
theorem comp_map {t : Tg} {c : DT} {e : DE} {env : Env} {st : Store} (g : U → Option U) : ∀ (us : List U), (∀ u ∈ us, ∃ l, t u = some l ∧ match g u with
      | some v => c (setE env l) st = .ok true st ∧ e (setE env l) st = .ok v st
      | none => c (setE env l) st = .ok false st) → compL t c e us env st = .ok (us.filterMap g) st
  | [], _ => rfl
  | u :: us, h => by
    obtain ⟨l, ht, hu⟩ := h u List.mem_cons_self
    have ih := comp_map g us fun x hx => h x (List.mem_cons_of_mem _ hx)
    rw [comp_cons, ht]
    cases hg : g u with
    | none =>
      rw [hg] at hu
      simp only [hu, bind_ok, Bool.false_eq_true, if_false, ih, List.filterMap_cons, hg]
    | some v =>
      rw [hg] at hu
      simp only [hu.1, hu.2, bind_ok, if_true, ih, List.filterMap_cons, hg]
/-- all elements, no test -/
theorem comp_all {t : Tg} {e : DE} {env : Env} {st : Store} (g : U → U) (us : List U) (h : ∀ u ∈ us, ∃ l, t u = some l ∧ e (setE env l) st = .ok (g u) st) : compL t yesT e us env st = .ok (us.map g) st := by
  rw [comp_map (fun u => some (g u)) us fun u hu => ?_]
  · rw [List.filterMap_eq_map']
  · obtain ⟨l, h1, h2⟩ := h u hu
    exact ⟨l, h1, rfl, h2⟩
theorem comp_allM {T : Type} {t : Tg} {e : DE} {env : Env} {st : Store} {f g : T → U} : ∀ (l : List T), (∀ c ∈ l, ∃ a, t (f c) = some a ∧ e (setE env a) st = .ok (g c) st) → compL t yesT e (l.map f) env st = .ok (l.map g) st
  | [], _ => rfl
  | c :: l, h => by
    obtain ⟨a, h1, h2⟩ := h c List.mem_cons_self
    have ih := comp_allM l fun x hx => h x (List.mem_cons_of_mem _ hx)
    rw [List.map_cons, comp_cons, h1]
    simp only [yesT_ap, bind_ok, if_true, h2, ih, List.map_cons]
theorem comp_filterM {T : Type} {t : Tg} {q : DT} {e : DE} {env : Env} {st : Store} {f g : T → U} {p : T → Bool} : ∀ (l : List T), (∀ c ∈ l, ∃ a, t (f c) = some a ∧ q (setE env a) st = .ok (p c) st ∧ (p c = true → e (setE env a) st = .ok (g c) st)) → compL t q e (l.map f) env st = .ok ((l.filter p).map g) st
  | [], _ => rfl
  | c :: l, h => by
    obtain ⟨a, h1, h2, h3⟩ := h c List.mem_cons_self
    have ih := comp_filterM l fun x hx => h x (List.mem_cons_of_mem _ hx)
    rw [List.map_cons, comp_cons, h1]
    simp only [h2, bind_ok]
    cases hp : p c with
    | true => simp only [if_true, h3 hp, bind_ok, ih, List.filter_cons, hp, List.map_cons]
    | false => simp only [Bool.false_eq_true, if_false, ih, List.filter_cons, hp]
theorem for_cons (t : Tg) (b : DS) (u : U) (us : List U) (env : Env) (st : Store) : forL t b (u :: us) env st = match t u with
    | none => .bad
    | some l => match b (setE env l) st with
      | .nx env2 st2 => forL t b us env2 st2
      | .ct env2 st2 => forL t b us env2 st2
      | .bk env2 st2 => .nx env2 st2
      | .rt u st2 => .rt u st2
      | .ex c us env2 st2 => .ex c us env2 st2
      | .bad => .bad := rfl
/-- a loop by what holds of the slots between its turns -/
theorem for_inv {t : Tg} {b : DS} {st : Store} (I : List U → Env → Prop) : ∀ (us : List U) (env : Env), I us env → (∀ u r env, u :: r <:+ us → I (u :: r) env → ∃ l env', t u = some l ∧ (b (setE env l) st = .nx env' st ∨ b (setE env l) st = .ct env' st) ∧ I r env') → ∃ env', forL t b us env st = .nx env' st ∧ I [] env'
  | [], env, h, _ => ⟨env, rfl, h⟩
  | u :: us, env, h, step => by
    obtain ⟨l, env1, h1, h2, h3⟩ := step u us env (List.suffix_refl _) h
    obtain ⟨env2, e, q⟩ := for_inv I us env1 h3 fun v r e hs hi => step v r e (hs.trans (List.suffix_cons _ _)) hi
    refine ⟨env2, ?_, q⟩
    rw [for_cons, h1]
    rcases h2 with h2 | h2
    · simp only [h2, e]
    · simp only [h2, e]
end D
namespace D
open PySem L2
/-- data of at most so many levels, texts of code points -/
def okU : Nat → U → Bool
  | _, .non => true
  | _, .bl _ => true
  | _, .int _ => true
  | _, .str x => x.cps.all (· < 0x110000)
  | n + 1, .lst us => us.all (okU n)
  | n + 1, .tup us => us.all (okU n)
  | _, _ => false
theorem okU_pd : ∀ (n : Nat) (u : U), okU n u = true → (pd u).canLay0 = true ∧ (pd u).depth ≤ n := by
  intro n
  induction n with
  | zero =>
    intro u h
    cases u with
    | non => exact ⟨by unfold pd PyData.canLay0; rfl, by unfold pd PyData.depth; exact Nat.le_refl _⟩
    | bl b => exact ⟨by unfold pd PyData.canLay0; rfl, by unfold pd PyData.depth; exact Nat.le_refl _⟩
    | int b => exact ⟨by unfold pd PyData.canLay0; rfl, by unfold pd PyData.depth; exact Nat.le_refl _⟩
    | str b => exact ⟨by unfold pd PyData.canLay0; exact h, by unfold pd PyData.depth; exact Nat.le_refl _⟩
    | _ => unfold okU at h; cases h
  | succ n ih =>
    have all : ∀ us : List U, us.all (okU n) = true → PyData.canLayAll0 (pds us) = true ∧ PyData.depthAll (pds us) ≤ n := by
      intro us
      induction us with
      | nil => intro _; exact ⟨by unfold pds PyData.canLayAll0; rfl, by unfold pds PyData.depthAll; exact Nat.zero_le _⟩
      | cons u us ihu =>
        intro h
        rw [List.all_cons, Bool.and_eq_true] at h
        obtain ⟨h1, h2⟩ := ih u h.1
        obtain ⟨h3, h4⟩ := ihu h.2
        refine ⟨by unfold pds PyData.canLayAll0; rw [h1, h3]; rfl, ?_⟩
        unfold pds PyData.depthAll
        exact Nat.max_le.mpr ⟨h2, h4⟩
    intro u h
    cases u with
    | non => exact ⟨by unfold pd PyData.canLay0; rfl, by unfold pd PyData.depth; exact Nat.zero_le _⟩
    | bl b => exact ⟨by unfold pd PyData.canLay0; rfl, by unfold pd PyData.depth; exact Nat.zero_le _⟩
    | int b => exact ⟨by unfold pd PyData.canLay0; rfl, by unfold pd PyData.depth; exact Nat.zero_le _⟩
    | str b => exact ⟨by unfold pd PyData.canLay0; exact h, by unfold pd PyData.depth; exact Nat.zero_le _⟩
    | lst us =>
      unfold okU at h
      obtain ⟨h1, h2⟩ := all us h
      exact ⟨by unfold pd PyData.canLay0; exact h1, by unfold pd PyData.depth; omega⟩
    | tup us =>
      unfold okU at h
      obtain ⟨h1, h2⟩ := all us h
      exact ⟨by unfold pd PyData.canLay0; exact h1, by unfold pd PyData.depth; omega⟩
    | _ => unfold okU at h; cases h
theorem okD_of {u : U} (n : Nat) (h : okU n u = true) (hn : n ≤ 64 := by decide) : okD u = true := by
  obtain ⟨h1, h2⟩ := okU_pd n u h
  unfold okD SeqAt.shaped
  rw [h1, decide_eq_true (Nat.le_trans h2 hn)]; rfl
theorem eqU_nil (us : List U) : eqU (.lst us) (.lst []) = us.isEmpty := by
  cases us with
  | nil => unfold eqU pd pds PyData.eqv PyData.eqvAll; rfl
  | cons u us => unfold eqU pd pds PyData.eqv PyData.eqvAll; rfl
theorem eqU_nilT (us : List U) : eqU (.tup us) (.tup []) = us.isEmpty := by
  cases us with
  | nil => unfold eqU pd pds PyData.eqv PyData.eqvAll; rfl
  | cons u us => unfold eqU pd pds PyData.eqv PyData.eqvAll; rfl
theorem eqU_str (x y : Str) : eqU (.str x) (.str y) = decide (x = y) := by
  unfold eqU pd PyData.eqv
  by_cases h : x = y
  · subst h; simp
  · rw [decide_eq_false h]; exact beq_eq_false_iff_ne.mpr h
/-- a loop over the numbers below n -/
theorem for_rng {j : Nat} {b : DS} {st : Store} (n : Nat) (I : Nat → Env → Prop) {env : Env} (h0 : I 0 env) (step : ∀ k env, k < n → I k env → ∃ env', (b (env.set j (.val (.int (k : Nat)))) st = .nx env' st ∨ b (env.set j (.val (.int (k : Nat)))) st = .ct env' st) ∧ I (k + 1) env') :
    ∃ env', forL (tgN j) b ((List.range n).map fun i => U.int (i : Nat)) env st = .nx env' st ∧ I n env' := by
  obtain ⟨env', h1, k, h2, h3, h4⟩ := for_inv (t := tgN j) (b := b) (st := st) (fun r env => ∃ k, r = ((List.range n).drop k).map (fun i => U.int (i : Nat)) ∧ k ≤ n ∧ I k env) ((List.range n).map fun i => U.int (i : Nat)) env ⟨0, by simp, Nat.zero_le _, h0⟩ (fun u r env _ hI => by
    obtain ⟨k, hr, hk, hI⟩ := hI
    have hlt : k < n := by
      refine Decidable.byContradiction fun z => ?_
      rw [List.drop_eq_nil_of_le (by simpa using Nat.le_of_not_lt z)] at hr
      cases hr
    rw [List.drop_eq_getElem_cons (by simpa using hlt), List.map_cons] at hr
    injection hr with hu hr
    rw [List.getElem_range] at hu
    subst hu
    obtain ⟨env', h1, h2⟩ := step k env hlt hI
    exact ⟨_, env', rfl, h1, k + 1, hr, hlt, h2⟩)
  refine ⟨env', h1, ?_⟩
  have : k = n := by
    have := congrArg List.length h2
    simp at this
    omega
  rw [← this]; exact h4
/-- a loop over the things of a list -/
theorem for_lst {T : Type} {t : Tg} {b : DS} {st : Store} {f : T → U} (I : List T → Env → Prop) : ∀ (l : List T) (env : Env), I l env → (∀ u r env, u ∈ l → I (u :: r) env → ∃ a env', t (f u) = some a ∧ (b (setE env a) st = .nx env' st ∨ b (setE env a) st = .ct env' st) ∧ I r env') → ∃ env', forL t b (l.map f) env st = .nx env' st ∧ I [] env'
  | [], env, h, _ => ⟨env, rfl, h⟩
  | u :: us, env, h, step => by
    obtain ⟨l, env1, h1, h2, h3⟩ := step u us env List.mem_cons_self h
    obtain ⟨env2, e, q⟩ := for_lst I us env1 h3 fun v r e hs hi => step v r e (List.mem_cons_of_mem _ hs) hi
    refine ⟨env2, ?_, q⟩
    rw [List.map_cons, for_cons, h1]
    rcases h2 with h2 | h2
    · simp only [h2, e]
    · simp only [h2, e]
theorem atI_at {A : Type} {l : List A} {k : Nat} {x : A} (h : l[k]? = some x) : atI l (k : Int) = some x := atI_nat h
end D
namespace C
open PySem L2 D
/-! ### a law's numbers out of a cell -/
def b_numbers : DS := (sSeq (sSet 2 (appN maxN (acons (var 0) (acons (bin sub2 (neg1D (cst (.int 1))) (var 0)) anil)))) (sSeq (sSet 3 (var 2)) (sSeq (sOwn 4 (szDL anil)) (sSeq (sFor (itA rng1 (acons (appN lenN (acons (var 1) anil)) anil)) (tgN 5) (sSeq (sIf (andT (tst (bin ge2 (var 2) (bin pow2 (cst (.int 10)) (cst (.int 18))))) (tst (bin gt2 (var 3) (cst (.int 0))))) (sSeq (sApp 4 (bin mod2 (var 3) (bin ix2 (var 1) (var 5)))) (sSeq (sSet 3 (bin fdiv2 (var 3) (bin ix2 (var 1) (var 5)))) sNil)) (sSeq (sSet 6 (bin mod2 (bin mul2 (bin add2 (bin add2 (bin mod2 (var 2) (cst (.int 2147483629))) (bin mul2 (cst (.int 7919)) (var 5))) (cst (.int 1))) (bin add2 (bin mul2 (cst (.int 2)) (var 5)) (cst (.int 48271)))) (cst (.int 2147483647)))) (sSeq (sApp 4 (bin mod2 (bin fdiv2 (bin mod2 (bin pow2 (var 6) (cst (.int 5))) (cst (.int 2147483587))) (cst (.int 16))) (bin ix2 (var 1) (var 5)))) sNil))) sNil)) (sSeq (frzS 4 (sRet (var 4))) sNil)))))
theorem smallI_of {i : Int} (h1 : -18446744073709551616 < i) (h2 : i < 18446744073709551616) : smallI i = true := by
  unfold smallI
  exact decide_eq_true ⟨by omega, by omega⟩
def b_numTurn : DS := (sSeq (sIf (andT (tst (bin ge2 (var 2) (bin pow2 (cst (.int 10)) (cst (.int 18))))) (tst (bin gt2 (var 3) (cst (.int 0))))) (sSeq (sApp 4 (bin mod2 (var 3) (bin ix2 (var 1) (var 5)))) (sSeq (sSet 3 (bin fdiv2 (var 3) (bin ix2 (var 1) (var 5)))) sNil)) (sSeq (sSet 6 (bin mod2 (bin mul2 (bin add2 (bin add2 (bin mod2 (var 2) (cst (.int 2147483629))) (bin mul2 (cst (.int 7919)) (var 5))) (cst (.int 1))) (bin add2 (bin mul2 (cst (.int 2)) (var 5)) (cst (.int 48271)))) (cst (.int 2147483647)))) (sSeq (sApp 4 (bin mod2 (bin fdiv2 (bin mod2 (bin pow2 (var 6) (cst (.int 5))) (cst (.int 2147483587))) (cst (.int 16))) (bin ix2 (var 1) (var 5)))) sNil))) sNil)
set_option maxHeartbeats 2000000 in
theorem turn1 (n left s : Int) (k : Nat) (ds : List U) (c : U) (szs : U) (s6 : Sl) (st : Store) (hc1 : 1000000000000000000 ≤ n) (hc2 : 0 < left) (hs1 : 0 < s) (hs2 : s < 1073741824) (hdl : ds.length < 16777216) (hix : ix2 szs (.int (k : Int)) = some (.int s)) :
    b_numTurn [.val c, .val szs, .val (.int n), .val (.int left), .own ds, .val (.int (k : Int)), s6] st = .nx [.val c, .val szs, .val (.int n), .val (.int (left / s)), .own (ds ++ [.int (left % s)]), .val (.int (k : Int)), s6] st := by
  unfold b_numTurn
  simp [ge2, gt2, pow2, hc1, hc2, mod2, fdiv2, hix, hs1, hs2, hdl]
theorem sm7919 : smallI 7919 = true := smallI_of (by decide) (by decide)
theorem sm2 : smallI 2 = true := smallI_of (by decide) (by decide)
set_option maxHeartbeats 2000000 in
theorem turn2 (n left s : Int) (k : Nat) (ds : List U) (c : U) (szs : U) (s6 : Sl) (st : Store) (hc : ¬ (1000000000000000000 ≤ n ∧ 0 < left)) (hs1 : 0 < s) (hk : k ≤ 1000) (hdl : ds.length < 16777216) (hix : ix2 szs (.int (k : Int)) = some (.int s)) :
    ∃ x y, b_numTurn [.val c, .val szs, .val (.int n), .val (.int left), .own ds, .val (.int (k : Int)), s6] st = .nx [.val c, .val szs, .val (.int n), .val (.int left), .own (ds ++ [.int (x % s)]), .val (.int (k : Int)), .val (.int y)] st := by
  have q1 : 0 ≤ n % 2147483629 ∧ n % 2147483629 < 2147483629 := ⟨Int.emod_nonneg _ (by decide), Int.emod_lt_of_pos _ (by decide)⟩
  generalize hone : (n % 2147483629 + 7919 * (k : Int) + 1) * (2 * (k : Int) + 48271) % 2147483647 = one
  have q2 : 0 ≤ one ∧ one < 2147483647 := by rw [← hone]; exact ⟨Int.emod_nonneg _ (by decide), Int.emod_lt_of_pos _ (by decide)⟩
  have sm3 : smallI (n % 2147483629 + 7919 * (k : Int) + 1) = true := smallI_of (by omega) (by omega)
  have q3 : one.natAbs < 18446744073709551616 := by omega
  refine ⟨one ^ 5 % 2147483587 / 16, one, ?_⟩
  unfold b_numTurn
  by_cases h1 : 1000000000000000000 ≤ n
  · have h2 : ¬ 0 < left := fun z => hc ⟨h1, z⟩
    simp [ge2, gt2, pow2, h1, h2, mod2, fdiv2, add2, mul2, sm7919, sm2, sm3, hone, q3, hix, hs1, hdl]
  · simp [ge2, gt2, pow2, h1, mod2, fdiv2, add2, mul2, sm7919, sm2, sm3, hone, q3, hix, hs1, hdl]
theorem rng1_nat (n : Nat) (h : n ≤ 1000000) : rng1 [.int (n : Int)] = some ((List.range n).map fun i => U.int (i : Nat)) := by
  unfold rng1
  dsimp only
  rw [if_pos ⟨by omega, by omega⟩, Int.toNat_natCast]
set_option maxHeartbeats 2000000 in
/-- each number lies below its size -/
theorem numbers_loop (c : Int) (sizes : List Int) (hs : ∀ s ∈ sizes, 0 < s ∧ s < 1073741824) (hl : sizes.length ≤ 1000) (st : Store) :
    ∃ (ds : List Int) (left : Int) (s5 s6 : Sl), forL (tgN 5) b_numTurn ((List.range sizes.length).map fun i => U.int (i : Nat)) [.val (.int c), .val (.lst (sizes.map .int)), .val (.int (if -1 - c > c then -1 - c else c)), .val (.int (if -1 - c > c then -1 - c else c)), .own [], .un, .un] st = .nx [.val (.int c), .val (.lst (sizes.map .int)), .val (.int (if -1 - c > c then -1 - c else c)), .val (.int left), .own (ds.map .int), s5, s6] st ∧ ds.length = sizes.length ∧ ∀ (i : Nat) (s d : Int), sizes[i]? = some s → ds[i]? = some d → 0 ≤ d ∧ d < s := by
  obtain ⟨env', he, hI⟩ := for_inv (t := tgN 5) (st := st) (b := b_numTurn)
    (fun r env => ∃ (ds : List Int) (left : Int) (s5 s6 : Sl), env = [.val (.int c), .val (.lst (sizes.map .int)), .val (.int (if -1 - c > c then -1 - c else c)), .val (.int left), .own (ds.map .int), s5, s6] ∧
      r = ((List.range sizes.length).drop ds.length).map (fun i => U.int (i : Nat)) ∧ ds.length ≤ sizes.length ∧ 0 ≤ left ∧ ∀ (i : Nat) (s d : Int), sizes[i]? = some s → ds[i]? = some d → 0 ≤ d ∧ d < s)
    ((List.range sizes.length).map fun i => U.int (i : Nat)) [.val (.int c), .val (.lst (sizes.map .int)), .val (.int (if -1 - c > c then -1 - c else c)), .val (.int (if -1 - c > c then -1 - c else c)), .own [], .un, .un]
    ⟨[], _, .un, .un, rfl, rfl, Nat.zero_le _, by split <;> omega, fun i s d _ h => by simp at h⟩
    (fun u r env _ hI => by
      obtain ⟨ds, left, s5, s6, rfl, hr, hd, h0, hb⟩ := hI
      have hlt : ds.length < sizes.length := by
        refine Decidable.byContradiction fun z => ?_
        rw [List.drop_eq_nil_of_le (by simpa using Nat.le_of_not_lt z)] at hr
        cases hr
      rw [List.drop_eq_getElem_cons (by simpa using hlt), List.map_cons] at hr
      injection hr with hu hr
      rw [List.getElem_range] at hu
      subst hu
      obtain ⟨s, hsz⟩ : ∃ s, sizes[ds.length]? = some s := ⟨_, List.getElem?_eq_getElem hlt⟩
      obtain ⟨hs1, hs2⟩ := hs s (List.mem_of_getElem? hsz)
      have hix : ix2 (.lst (sizes.map .int)) (.int (ds.length : Int)) = some (.int s) := atI_at (by rw [List.getElem?_map, hsz]; rfl)
      have ext : ∀ x : Int, 0 ≤ x ∧ x < s → ∀ (i : Nat) (s d : Int), sizes[i]? = some s → (ds ++ [x])[i]? = some d → 0 ≤ d ∧ d < s := fun x hx i s' d' e1 e2 => by
        by_cases hi : i < ds.length
        · rw [List.getElem?_append_left hi] at e2
          exact hb i s' d' e1 e2
        · rw [List.getElem?_append_right (Nat.le_of_not_lt hi)] at e2
          have hi2 : i = ds.length := by
            have := (List.getElem?_eq_some_iff.mp e2).1
            simp at this
            omega
          subst hi2
          rw [Nat.sub_self] at e2
          simp at e2
          rw [hsz] at e1
          cases e1
          subst e2
          exact hx
      have hm : ∀ y : Int, 0 ≤ y % s ∧ y % s < s := fun y => ⟨Int.emod_nonneg _ (by omega), Int.emod_lt_of_pos _ hs1⟩
      have hdl : (ds.map U.int).length < 16777216 := by rw [List.length_map]; omega
      have happ : ∀ x : Int, (ds ++ [x]).map U.int = ds.map U.int ++ [U.int x] := fun x => by simp
      refine ⟨[(5, .int (ds.length : Int))], ?_⟩
      by_cases hc : 1000000000000000000 ≤ (if -1 - c > c then -1 - c else c) ∧ 0 < left
      · refine ⟨_, rfl, .inl (turn1 _ left s ds.length _ _ _ s6 st hc.1 hc.2 hs1 hs2 hdl hix), ds ++ [left % s], left / s, _, s6, by rw [happ], ?_, ?_, ?_, ext _ (hm left)⟩
        · rw [List.length_append]; exact hr
        · rw [List.length_append]; exact hlt
        · exact Int.ediv_nonneg h0 (by omega)
      · obtain ⟨x, y, e⟩ := turn2 _ left s ds.length (ds.map U.int) (.int c) _ s6 st hc hs1 (by omega) hdl hix
        refine ⟨_, rfl, .inl e, ds ++ [x % s], left, _, _, by rw [happ], ?_, ?_, h0, ext _ (hm x)⟩
        · rw [List.length_append]; exact hr
        · rw [List.length_append]; exact hlt)
  obtain ⟨ds, left, s5, s6, rfl, hr, hd, _, hb⟩ := hI
  have hlen : ds.length = sizes.length := by
    have : ((List.range sizes.length).drop ds.length).length = 0 := by
      have := congrArg List.length hr
      simpa using this.symm
    simp at this
    omega
  exact ⟨ds, left, s5, s6, he, hlen, hb⟩
theorem numbers_ok (c : Int) (sizes : List Int) (hs : ∀ s ∈ sizes, 0 < s ∧ s < 1073741824) (hl : sizes.length ≤ 1000) (st : Store) :
    ∃ ds : List Int, runB 7 2 b_numbers [.int c, .lst (sizes.map .int)] st = .ok (.lst (ds.map .int)) st ∧ ds.length = sizes.length ∧ ∀ (i : Nat) (s d : Int), sizes[i]? = some s → ds[i]? = some d → 0 ≤ d ∧ d < s := by
  obtain ⟨ds, left, s5, s6, he, hlen, hb⟩ := numbers_loop c sizes hs hl st
  refine ⟨ds, ?_, hlen, hb⟩
  have hrng := rng1_nat sizes.length (by omega)
  have e2 : b_numbers = (sSeq (sSet 2 (appN maxN (acons (var 0) (acons (bin sub2 (neg1D (cst (.int 1))) (var 0)) anil)))) (sSeq (sSet 3 (var 2)) (sSeq (sOwn 4 (szDL anil)) (sSeq (sFor (itA rng1 (acons (appN lenN (acons (var 1) anil)) anil)) (tgN 5) b_numTurn) (sSeq (frzS 4 (sRet (var 4))) sNil))))) := rfl
  rw [e2]
  simp [maxN, sub2, neg1, lenN, hrng, he, frzE, frz1, -gt_iff_lt]
end C
namespace D
open PySem L2
/-! ### enumerate of a tuple -/
def IteT (K : PySem.W.Frag) (t : Addr) : It where
  go := fun n H => ∃ (ws : List V) (w : V), SqT K H t ws ∧ ws[n]? = some w
  yld := fun n H v H' => ∃ q w, v = .ref q ∧ H q = none ∧ H' = upd H q (.tup [.int (n : Nat), w]) ∧ ∀ ws, SqT K H t ws → ws[n]? = some w
  stop := fun n H => ∃ ws : List V, SqT K H t ws ∧ ws.length ≤ n
theorem draws_over {P : Program} {w : World} {B : Around} (hB : B.handled = none) (j t : Addr) (n : Nat) (its : Array Value) (hn : its[n]? = none) :
    Draws P w B j [j, t] n (fun _ _ => True) (fun m h => m = n ∧ h.IsTupleIter j t n ∧ h.IsTuple t its) where
  live := fun _ _ q => let ⟨o, ho, _⟩ := q.2.1; ⟨o, ho⟩
  frame := fun _ _ _ q kp => ⟨q.1, q.2.1.at fun o z => kp j (by simp) o z, q.2.2.at fun o z => kp t (by simp) o z⟩
  item := fun m sh Q E lt q hQ => absurd q.1 (Nat.ne_of_lt lt)
  done := fun sh Q E q hE => wpAny_nextOf_tuple_end hB q.2.1 q.2.2 hn hE
theorem turn_enumT {P : Program} {w : World} {K : PySem.W.Frag} {els : List Expr} {k2 : Nat} {tp : Pos} (t e j : Addr) (htj : t ≠ j) (het : e ≠ t) (hej : e ≠ j) :
    Turn P w K (.Tuple els k2 tp) (IteT K t) [e, j] e (fun n h => (∃ was, IsEnum h e j ((n : Nat) : Int) was) ∧ h.IsTupleIter j t n) := by
  have two : ∀ b, b ∈ [e, j] → b = e ∨ b = j := fun b hb => by simpa using hb
  refine ⟨List.mem_cons_self, fun n h q b hb => ?_, fun n h h' q kp => ?_, ?_, ?_, ?_⟩
  · obtain ⟨⟨was, he⟩, ⟨o, ho, _, hd⟩⟩ := q
    rcases two b hb with z | z
    · rw [z]; exact ⟨_, he, fun v y => nomatch y⟩
    · rw [z]; exact ⟨o, ho, fun v y => by rw [hd] at y; cases y⟩
  · obtain ⟨⟨was, he⟩, hj⟩ := q
    exact ⟨⟨was, kp e List.mem_cons_self _ he⟩, hj.at fun o z => kp j (by simp) o z⟩
  · intro X eP ew eK calm n pins sh sg H E I fpk q go
    subst eP; subst ew; subst eK
    obtain ⟨⟨was, he⟩, hj⟩ := q
    obtain ⟨ws, w, sq, hw⟩ := go
    obtain ⟨its, rv, p, _⟩ := I.tuple sq
    obtain ⟨u, hu, ru⟩ := rv.get hw
    have p' : sh.heap.IsTuple t its.toArray := p
    have le : e < sh.heap.objs.size := Heap.lt_size he
    have lj : j < sh.heap.objs.size := by obtain ⟨_, z, _⟩ := hj; exact Heap.lt_size z
    have hn : n < its.length := (List.getElem?_eq_some_iff.mp hu).1
    refine wpAny_pyNext_enum_itemD (Draws.tuple (prog := X.prog) (w := X.w) (A := X.A.in1) (I.ok.hd calm) j t htj its.toArray) he ⟨hj, p'⟩ (by simpa using hn) hej (by simp [hej, het]) fun x h' tk hx out st' new hsz kp => ?_
    have hxu : x = u := by
      have hx : its.toArray[n]? = some x := hx
      rw [List.getElem?_toArray, hu] at hx
      exact (Option.some.inj hx).symm
    subst hxu
    refine ⟨_, rfl, wpAny_letOwnedTupleGo_enum (s := { sh with heap := h', toks := tk + 1 }) out fun h2 he2 sb => ?_⟩
    have at2 : h2.get? sh.heap.objs.size = some { cls := .type "tuple", data := .seq #[.int n tk, x] } := (sb.2 _ (Nat.ne_of_gt le)).trans new
    have ob : ObjOk X.prog X.w (upd H sh.heap.objs.size (.tup [.int (n : Nat), w])) h2 sh.heap.objs.size (.tup [.int (n : Nat), w]) := ⟨by show 2 ≤ sizeLine; decide, [.int n tk, x], .cons ⟨_, rfl⟩ (.cons ru .nil), ⟨_, at2, rfl, _, rfl⟩⟩
    have I2 : Inv X pins sg (upd H sh.heap.objs.size (.tup [.int (n : Nat), w])) { sh with heap := h2, toks := tk + 1 } :=
      I.turnedNew (ch := [e, j]) (fun b o hb z => (sb.2 b fun y => hb (by simp [y])).trans (kp b o (fun y => hb (by simp [y])) (fun y => hb (by simp [y])) z)) fpk (Nat.le_refl _) ob
    refine ⟨.ref sh.heap.objs.size, _, I2, rfl, ⟨_, w, rfl, I.hok.fresh (Nat.le_refl _), rfl, fun ys hy => by rw [I.tuple_inj hy sq]; exact hw⟩, ⟨⟨x, ?_⟩, st'.1.at fun o z => (sb.2 j (Ne.symm hej)).trans z⟩, fun b hb => ?_⟩
    · have : ((n + 1 : Nat) : Int) = (n : Int) + 1 := by omega
      rw [this]; exact he2
    · have lb : b < sh.heap.objs.size := by
        rcases two b hb with z | z
        · rw [z]; exact le
        · rw [z]; exact lj
      rw [upd_ne (Nat.ne_of_lt lb)]
      exact (fpk b hb).1
  · intro X eP ew eK calm n pins sh sg H E I fpk q go
    subst eP; subst ew; subst eK
    obtain ⟨⟨was, he⟩, hj⟩ := q
    obtain ⟨ws, sq, hw⟩ := go
    obtain ⟨its, rv, p, _⟩ := I.tuple sq
    have p' : sh.heap.IsTuple t its.toArray := p
    have len := rv.length
    obtain ⟨f0, f1, f2, f3, f4, f5⟩ := fpk j (by simp)
    exact wpAny_pyNext_enum_endD (draws_over (P := X.prog) (w := X.w) (B := X.A.in1) (I.ok.hd calm) j t n its.toArray (by simp; omega)) he ⟨rfl, hj, p'⟩ fun h' eb => ⟨rfl, I.turned (t' := sh.toks) (fun b o hb z => eb b o hb z) f0 f1 f3 f4 f5⟩
  · intro A n sh Q E q hQ
    obtain ⟨⟨_, he⟩, _⟩ := q
    exact wpAny_pyIter_enum he hQ
set_option maxHeartbeats 1000000 in
theorem meets_enum1 {v : Value} {ob : Obj} {Hh : Heap → Prop} (B : Begins v ob Hh) :
    Meets (Builtin.«enumerate.__new__» ⟨[.type "enumerate", v], []⟩) (fun _ R sh => Hh sh.heap ∧
      R (.ok (.ret (.ref (sh.heap.push ob).objs.size))) { sh with heap := (sh.heap.push ob).push { cls := .type "enumerate", data := .fields #[.none, .bool false, .ref sh.heap.objs.size, rawInt 0, .none, .none] } }) := by
  refine .of_wp fun P w A R sh h => ?_
  obtain ⟨hp, g, d, tk, os⟩ := sh
  obtain ⟨h1, h⟩ := h
  have isSub := sub_enumerate
  have begin1 : ∀ {A2 : Around} {E : Value → Shared → Prop} {Q : Value → Shared → Prop}, Q (.ref hp.objs.size) ⟨hp.push ob, g, d, tk, os⟩ → wpAny (model P w) A2 (pyIter v) Q E ⟨hp, g, d, tk, os⟩ := fun q => B.iter P w _ _ ⟨hp, g, d, tk, os⟩ _ h1 q
  wp_walk using begin1
  refine wpAny_stack_any fun _ => wpAny_pure ?_
  split
  · rename_i c _ _ _ _ _
    cases (c == Value.type "enumerate") <;> (wp_walk using begin1; exact ⟨_, rfl, h⟩)
  · wp_walk using begin1
    exact ⟨_, rfl, h⟩
section
variable {P : Program} {w : World} {A : Around} {E : Value → Shared → Prop} {sh : Shared}
theorem call_enumT {t : Addr} {its : Array Value} {Q : Value → Shared → Prop} (hT : sh.heap.IsTuple t its)
    (h : ∀ h', IsEnum h' (sh.heap.objs.size + 1) sh.heap.objs.size 0 .none → h'.IsTupleIter sh.heap.objs.size t 0 → (∀ b o, sh.heap.get? b = some o → h'.get? b = some o) → Q (.ref (sh.heap.objs.size + 1)) { sh with heap := h' }) :
    wpAny (model P w) A (call (.type "enumerate") [.ref t]) Q E sh := by
  refine callType_new F.called_enumerate (by decide) (F.typeCall_enumerate_1 _) (F.newCall_enumerate_1 _) (fun x => F.args_object_init_2 x _) F.entry_enumerate_new (meets_enum1 (begins_tuple t its)) ⟨hT, ?_⟩
  have hz : (sh.heap.push { cls := .type "tuple_iterator", data := .fields #[.ref t, .int 0 0] }).objs.size = sh.heap.objs.size + 1 := by rw [Heap.size_push]
  have he := Heap.get?_push_size (sh.heap.push { cls := .type "tuple_iterator", data := .fields #[.ref t, .int 0 0] }) (o := { cls := .type "enumerate", data := .fields #[.none, .bool false, .ref sh.heap.objs.size, rawInt 0, .none, .none] }) rfl
  show _ ∧ _
  rw [hz]
  rw [hz] at he
  exact ⟨⟨_, he, rfl⟩, h _ he ⟨_, Heap.get?_push_of_some _ (Heap.get?_push_size _ rfl), rfl, rfl⟩ fun b o x => Heap.get?_push_of_some _ (Heap.get?_push_of_some _ x)⟩
end
def iEnA (K : PySem.W.Frag) (ta : TA) : TI := fun sg H R => ta sg H fun vs H1 => ∃ a ws, vs = [.ref a] ∧ ((SqL K H1 a ws ∧ R (Ite K a) H1) ∨ (SqT K H1 a ws ∧ R (IteT K a) H1))
theorem pi_enumA {X : Cx} {e : Expr} {ta : TA} {p pos tp : Pos} {els : List Expr} {k2 : Nat} (hg : Gl X "enumerate") (hm : X.mg "enumerate" = none) (ha : PA X [e] ta) (hs : starEach [e] X.env = [(false, eval e X.env)] := by rfl) :
    PI X (.Tuple els k2 tp) (.Call (.Name "enumerate" p) [e] [] pos) (iEnA X.K ta) := by
  refine ⟨fun pins s sg H R I h => ?_⟩
  refine PyProof.Rows.Call_ (ld_blt I hg hm PyProof.Rows.boot_enumerate (PyProof.Rows.callWith_type1 (thn (ha.run pos pins s sg H _ I h) fun us s1 ⟨vs, H1, I1, r1, q1⟩ => ?_) hs rfl))
  obtain ⟨a, ws, rfl, q1⟩ := q1
  have two : ∀ b, b ∈ [s1.heap.objs.size + 1, s1.heap.objs.size] → FpOk X pins H1 b := fun b hb => by
    have hle : s1.heap.objs.size ≤ b := by
      have : b = s1.heap.objs.size + 1 ∨ b = s1.heap.objs.size := by simpa using hb
      omega
    exact I1.fpOk hle (I1.hok.fresh hle)
  cases r1 with
  | cons r rr =>
    cases rr
    cases r
    rcases q1 with ⟨sq, q⟩ | ⟨sq, q⟩
    · obtain ⟨its, rv, p', _⟩ := I1.list sq
      exact call_enumerate_list p'.isList fun h' he hit hsz hk => wpAny_pyIter_enum he ⟨s1.heap.objs.size + 1, _, _, _, H1, rfl, I1.kept (t' := s1.toks) hk, turn_enum a (s1.heap.objs.size + 1) s1.heap.objs.size, ⟨⟨.none, he⟩, hit, Nat.succ_ne_self _⟩, two, q⟩
    · obtain ⟨its, rv, p', _⟩ := I1.tuple sq
      have la : a < s1.heap.objs.size := by obtain ⟨_, z, _⟩ := id p'; exact Heap.lt_size z
      exact call_enumT (show s1.heap.IsTuple a its.toArray from p') fun h' he hit hk => wpAny_pyIter_enum he ⟨s1.heap.objs.size + 1, _, _, _, H1, rfl, I1.kept (t' := s1.toks) hk,
        turn_enumT a (s1.heap.objs.size + 1) s1.heap.objs.size (Nat.ne_of_lt la) (Nat.ne_of_gt (Nat.lt_succ_of_lt la)) (Nat.succ_ne_self _), ⟨⟨.none, he⟩, hit⟩, two, q⟩
/-! ### as data -/
def numU (us : List U) : List U := us.mapIdx fun i u => U.tup [.int (i : Nat), u]
def enumerateN : List U → Option (List U)
  | [.lst us] => some (numU us)
  | [.tup us] => some (numU us)
  | [.scr ns] => some (numU (ns.map U.int))
  | _ => none
def zipU (us ws : List U) : List U := List.zipWith (fun a b => U.tup [a, b]) us ws
def zipN : List U → Option (List U)
  | [.lst us, .lst ws] => some (zipU us ws)
  | [.tup us, .tup ws] => some (zipU us ws)
  | _ => none
def reversedN : List U → Option (List U)
  | [.lst us] => some us.reverse
  | [.tup us] => some us.reverse
  | _ => none
section
variable {K : PySem.W.Frag} {G : Addr → Prop} {io : List Addr} {H : Hp}
theorem newPair {G' : Addr → Prop} {io' : List Addr} {st' : Store} {H' : Hp} {q : Addr} {u w : U} {x y : V} (ok : Ok K G' io' st' H') (hq : H' q = none) (r1 : Rep K (Wf G' io') io' H' u x) (r2 : Rep K (Wf G' io') io' H' w y) :
    Rep K (Wf G' io') io' (upd H' q (.tup [x, y])) (.tup [u, w]) (.ref q) := ok.newT hq (.cons r1 (.cons r2 .nil))
theorem wk_enL {a : Addr} {us : List U} {vs : List V} (h : ∀ (G' : Addr → Prop) (io' : List Addr) (H' : Hp), Mono G io H G' io' H' → SqL K H' a vs) (r : Reps K (Wf G io) io H us vs) : Wk K G (Ite K a) io H (numU us) := by
  have hl : (numU us).length = us.length := by unfold numU; exact List.length_mapIdx
  refine ⟨fun i G' io' st' H' ok m hi => ?_, fun i G' io' st' H' ok m hi => ⟨vs, h _ _ _ m, by rw [← r.length]; omega⟩⟩
  have hi' : i < us.length := by omega
  obtain ⟨v, hv, rv⟩ := r.get (List.getElem?_eq_getElem hi')
  refine ⟨⟨vs, v, h _ _ _ m, hv⟩, fun x H'' y => ?_⟩
  obtain ⟨q, w, rfl, hq, rfl, hw⟩ := y
  have e := (hw vs (h _ _ _ m)).symm.trans hv
  cases e
  refine ⟨same_upd hq, .tup [.int (i : Nat), us[i]], by unfold numU; simp [hi'], newPair ok hq (rInt _) (rv.mono m)⟩
theorem wk_enT {a : Addr} {us : List U} {vs : List V} (h : ∀ (G' : Addr → Prop) (io' : List Addr) (H' : Hp), Mono G io H G' io' H' → SqT K H' a vs) (r : Reps K (Wf G io) io H us vs) : Wk K G (IteT K a) io H (numU us) := by
  have hl : (numU us).length = us.length := by unfold numU; exact List.length_mapIdx
  refine ⟨fun i G' io' st' H' ok m hi => ?_, fun i G' io' st' H' ok m hi => ⟨vs, h _ _ _ m, by rw [← r.length]; omega⟩⟩
  have hi' : i < us.length := by omega
  obtain ⟨v, hv, rv⟩ := r.get (List.getElem?_eq_getElem hi')
  refine ⟨⟨vs, v, h _ _ _ m, hv⟩, fun x H'' y => ?_⟩
  obtain ⟨q, w, rfl, hq, rfl, hw⟩ := y
  have e := (hw vs (h _ _ _ m)).symm.trans hv
  cases e
  refine ⟨same_upd hq, .tup [.int (i : Nat), us[i]], by unfold numU; simp [hi'], newPair ok hq (rInt _) (rv.mono m)⟩
theorem wk_zipL {a b : Addr} {us ws : List U} {vs xs : List V} (h1 : LL K (Wf G io) H a vs) (r1 : Reps K (Wf G io) io H us vs) (h2 : LL K (Wf G io) H b xs) (r2 : Reps K (Wf G io) io H ws xs) : Wk K G (Itz K a b) io H (zipU us ws) := by
  have hl : (zipU us ws).length = min us.length ws.length := by unfold zipU; simp
  refine ⟨fun i G' io' st' H' ok m hi => ?_, fun i G' io' st' H' ok m hi => ⟨vs, xs, (h1.mono m).sq, (h2.mono m).sq, by rw [← r1.length, ← r2.length]; omega⟩⟩
  have i1 : i < us.length := by omega
  have i2 : i < ws.length := by omega
  obtain ⟨v1, hv1, rv1⟩ := r1.get (List.getElem?_eq_getElem i1)
  obtain ⟨v2, hv2, rv2⟩ := r2.get (List.getElem?_eq_getElem i2)
  refine ⟨⟨vs, xs, v1, v2, (h1.mono m).sq, (h2.mono m).sq, hv1, hv2⟩, fun x H'' y => ?_⟩
  obtain ⟨q, w1, w2, rfl, hq, rfl, hw1, hw2⟩ := y
  have e1 := (hw1 vs (h1.mono m).sq).symm.trans hv1
  have e2 := (hw2 xs (h2.mono m).sq).symm.trans hv2
  cases e1; cases e2
  refine ⟨same_upd hq, .tup [us[i], ws[i]], by unfold zipU; rw [List.getElem?_zipWith, List.getElem?_eq_getElem i1, List.getElem?_eq_getElem i2], newPair ok hq (rv1.mono m) (rv2.mono m)⟩
theorem wk_zipT {a b : Addr} {us ws : List U} {vs xs : List V} (h1 : LT K (Wf G io) H a vs) (r1 : Reps K (Wf G io) io H us vs) (h2 : LT K (Wf G io) H b xs) (r2 : Reps K (Wf G io) io H ws xs) : Wk K G (RZ.ItzT K a b) io H (zipU us ws) := by
  have hl : (zipU us ws).length = min us.length ws.length := by unfold zipU; simp
  refine ⟨fun i G' io' st' H' ok m hi => ?_, fun i G' io' st' H' ok m hi => ⟨vs, xs, (h1.mono m).sq, (h2.mono m).sq, by rw [← r1.length, ← r2.length]; omega⟩⟩
  have i1 : i < us.length := by omega
  have i2 : i < ws.length := by omega
  obtain ⟨v1, hv1, rv1⟩ := r1.get (List.getElem?_eq_getElem i1)
  obtain ⟨v2, hv2, rv2⟩ := r2.get (List.getElem?_eq_getElem i2)
  refine ⟨⟨vs, xs, v1, v2, (h1.mono m).sq, (h2.mono m).sq, hv1, hv2⟩, fun x H'' y => ?_⟩
  obtain ⟨q, w1, w2, rfl, hq, rfl, hw1, hw2⟩ := y
  have e1 := (hw1 vs (h1.mono m).sq).symm.trans hv1
  have e2 := (hw2 xs (h2.mono m).sq).symm.trans hv2
  cases e1; cases e2
  refine ⟨same_upd hq, .tup [us[i], ws[i]], by unfold zipU; rw [List.getElem?_zipWith, List.getElem?_eq_getElem i1, List.getElem?_eq_getElem i2], newPair ok hq (rv1.mono m) (rv2.mono m)⟩
theorem wk_revL {a : Addr} {us : List U} {vs : List V} (h : LL K (Wf G io) H a vs) (r : Reps K (Wf G io) io H us vs) : Wk K G (Itv K a vs.length) io H us.reverse := by
  have hl : us.reverse.length = vs.length := by rw [List.length_reverse, r.length]
  refine ⟨fun i G' io' st' H' ok m hi => ?_, fun i G' io' st' H' ok m hi => by show vs.length ≤ i; omega⟩
  have hi' : us.length - 1 - i < us.length := by have := r.length; omega
  obtain ⟨v, hv, rv⟩ := r.get (List.getElem?_eq_getElem hi')
  rw [r.length] at hv
  refine ⟨⟨by omega, vs, v, (h.mono m).sq, hv⟩, fun x H'' y => ?_⟩
  obtain ⟨rfl, y⟩ := y
  have e := (y vs (h.mono m).sq).symm.trans hv
  cases e
  refine ⟨Same.refl _, us[us.length - 1 - i], ?_, rv.mono m⟩
  rw [List.getElem?_reverse (by rw [List.length_reverse] at hi; exact hi), List.getElem?_eq_getElem hi']
theorem wk_revT {a : Addr} {us : List U} {vs : List V} (h : LT K (Wf G io) H a vs) (r : Reps K (Wf G io) io H us vs) : Wk K G (RT.ItvT K a vs.length) io H us.reverse := by
  have hl : us.reverse.length = vs.length := by rw [List.length_reverse, r.length]
  refine ⟨fun i G' io' st' H' ok m hi => ?_, fun i G' io' st' H' ok m hi => by show vs.length ≤ i; omega⟩
  have hi' : us.length - 1 - i < us.length := by have := r.length; omega
  obtain ⟨v, hv, rv⟩ := r.get (List.getElem?_eq_getElem hi')
  rw [r.length] at hv
  refine ⟨⟨by omega, vs, v, (h.mono m).sq, hv⟩, fun x H'' y => ?_⟩
  obtain ⟨rfl, y⟩ := y
  have e := (y vs (h.mono m).sq).symm.trans hv
  cases e
  refine ⟨Same.refl _, us[us.length - 1 - i], ?_, rv.mono m⟩
  rw [List.getElem?_reverse (by rw [List.length_reverse] at hi; exact hi), List.getElem?_eq_getElem hi']
end
section
variable {X : Cx} {xs : XS} {wx : WX} {pos : Pos} {tg : Expr}
theorem i_enumerate {e : Expr} {f : DA} {p tp : Pos} {els : List Expr} {k2 : Nat} (hg : Gl X "enumerate") (hm : X.mg "enumerate" = none) (ha : PA X [e] (tDA X.K xs wx f)) (hs : starEach [e] X.env = [(false, eval e X.env)] := by rfl) :
    PI X (.Tuple els k2 tp) (.Call (.Name "enumerate" p) [e] [] pos) (tI X.K xs wx (itA enumerateN f)) := pi_imp (pi_enumA hg hm ha hs) fun sg H R q => by
  obtain ⟨G, io, st, env, ok, er, w⟩ := q
  refine ⟨G, io, st, env, ok, er, w.bind.impR fun st1 io1 H1 us ok1 e1 w1 vs rvs => ?_⟩
  obtain ⟨ws, hu, w2⟩ := w1.pure
  unfold enumerateN at hu
  split at hu
  · cases hu
    obtain ⟨v, rfl, rv⟩ := rvs.one
    obtain ⟨a, ys, rfl, l, r'⟩ := rv.lst'
    exact ⟨a, ys, rfl, .inl ⟨l.sq, w2.here ok1 _ (wk_enL (fun _ _ _ m => (l.mono m).sq) r')⟩⟩
  · cases hu
    obtain ⟨v, rfl, rv⟩ := rvs.one
    obtain ⟨a, ys, rfl, l, r'⟩ := rv.tup'
    exact ⟨a, ys, rfl, .inr ⟨l.sq, w2.here ok1 _ (wk_enT (fun _ _ _ m => (l.mono m).sq) r')⟩⟩
  · cases hu
    obtain ⟨v, rfl, rv⟩ := rvs.one
    obtain ⟨a, rfl, l⟩ := rv.scr'
    exact ⟨a, _, rfl, .inl ⟨l.sq, w2.here ok1 _ (wk_enL (fun _ _ _ m => (l.mono m).sq) (Reps.ints _))⟩⟩
  · cases hu
theorem i_zip {e e2 : Expr} {f : DA} {p tp : Pos} {els : List Expr} {k2 : Nat} (hg : Gl X "zip") (hm : X.mg "zip" = none) (ha : PA X [e, e2] (tDA X.K xs wx f)) (hs : starEach [e, e2] X.env = (false, eval e X.env) :: starEach [e2] X.env := by rfl) (hpl : (backTo pos (starEach [e2] X.env)).any (·.1) = false := by rfl) :
    PI X (.Tuple els k2 tp) (.Call (.Name "zip" p) [e, e2] [] pos) (tI X.K xs wx (itA zipN f)) := pi_imp (RZ.pi_zipA hg hm ha hs hpl) fun sg H R q => by
  obtain ⟨G, io, st, env, ok, er, w⟩ := q
  refine ⟨G, io, st, env, ok, er, w.bind.impR fun st1 io1 H1 us ok1 e1 w1 vs rvs => ?_⟩
  obtain ⟨ws, hu, w2⟩ := w1.pure
  unfold zipN at hu
  split at hu
  · cases hu
    obtain ⟨v, x, rfl, rv, rx⟩ := rvs.two
    obtain ⟨a, ys, rfl, l, r'⟩ := rv.lst'
    obtain ⟨b, zs, rfl, l2, r2⟩ := rx.lst'
    exact ⟨a, b, ys, zs, rfl, .inl ⟨l.sq, l2.sq, w2.here ok1 _ (wk_zipL l r' l2 r2)⟩⟩
  · cases hu
    obtain ⟨v, x, rfl, rv, rx⟩ := rvs.two
    obtain ⟨a, ys, rfl, l, r'⟩ := rv.tup'
    obtain ⟨b, zs, rfl, l2, r2⟩ := rx.tup'
    exact ⟨a, b, ys, zs, rfl, .inr ⟨l.sq, l2.sq, w2.here ok1 _ (wk_zipT l r' l2 r2)⟩⟩
  · cases hu
def itE (g : U → Option (List U)) (f : DE) : DL := fun env st => (f env st).bind fun u st1 => Rs.of (g u) st1
def rev1 : U → Option (List U)
  | .lst us => some us.reverse
  | .tup us => some us.reverse
  | _ => none
theorem i_reversed {e : Expr} {f : DE} {p : Pos} (hg : Gl X "reversed") (hm : X.mg "reversed" = none) (he : PE X e (tD X.K xs wx f)) (hs : starEach [e] X.env = (false, eval e X.env) :: starEach [] X.env := by rfl) :
    PI X tg (.Call (.Name "reversed" p) [e] [] pos) (tI X.K xs wx (itE rev1 f)) := pi_imp (RT.pi_revA hg hm he hs) fun sg H R q => by
  obtain ⟨G, io, st, env, ok, er, w⟩ := q
  refine ⟨G, io, st, env, ok, er, w.bind.impR fun st1 io1 H1 u ok1 e1 w1 v rv => ?_⟩
  obtain ⟨ws, hu, w2⟩ := w1.pure
  unfold rev1 at hu
  split at hu
  · cases hu
    obtain ⟨a, ys, rfl, l, r'⟩ := rv.lst'
    exact ⟨a, ys, rfl, .inl ⟨l.sq, w2.here ok1 _ (wk_revL l r')⟩⟩
  · cases hu
    obtain ⟨a, ys, rfl, l, r'⟩ := rv.tup'
    exact ⟨a, ys, rfl, .inr ⟨l.sq, w2.here ok1 _ (wk_revT l r')⟩⟩
  · cases hu
end
end D
namespace D
open PySem L2
/-! ### t[::-1] -/
section
variable {P : Program} {w : World} {A : Around} {E : Value → Shared → Prop} {sh : Shared}
theorem applied_back {sl : Addr} {tk : Tok} {n : Nat} {Q : Int × Int × Nat → Shared → Prop} (hs : sh.heap.IsSliceOf sl .none .none (.int (-1) tk)) (h : Q ((n : Int) - 1, -1, n) sh) :
    wpAny (model P w) A (Builtin.Slice.sliceApplied (.ref sl) (pure (n : Int))) Q E sh := by
  obtain ⟨o, ho, _, hd⟩ := id hs
  unfold Builtin.Slice.sliceApplied Builtin.Slice.sliceFields
  refine wpAny_bind (wpAny_bind (wpAny_field ho hd (x := .none) rfl (wpAny_bind (wpAny_field ho hd (x := .none) rfl (wpAny_bind (wpAny_field ho hd (x := .int (-1) tk) rfl (wpAny_pure ?_)))))))
  refine wpAny_bind (PyProof.Rows.slicePart_int ?_)
  show wpAny _ _ (if (((-1 : Int)) == 0) = true then _ else _) _ _ sh
  rw [if_neg (by decide)]
  refine wpAny_bind (PyProof.Rows.slicePart_none (wpAny_bind (PyProof.Rows.slicePart_none (wpAny_bind (wpAny_pure ?_)))))
  have e2 : Builtin.Slice.slicePlaces ((n : Int) - 1) (-1) (-1) = n := by
    unfold Builtin.Slice.slicePlaces
    rw [if_neg (by decide)]
    by_cases hn : (n : Int) - 1 > -1
    · rw [if_pos hn, show (-(-1) : Int) = 1 by decide, Int.ediv_one]; omega
    · rw [if_neg hn]; omega
  show wpAny _ _ (pure ((n : Int) - 1, (-1 : Int), Builtin.Slice.slicePlaces ((n : Int) - 1) (-1) (-1))) _ _ sh
  rw [e2]
  exact wpAny_pure h
theorem pick_back (its : Array Value) : ((List.range its.size).filterMap fun (k : Nat) => its[((its.size : Int) - 1 + (k : Int) * -1).toNat]?).toArray = its.toList.reverse.toArray := by
  congr 1
  have e : (List.range its.size).filterMap (fun (k : Nat) => its[((its.size : Int) - 1 + (k : Int) * -1).toNat]?) = ((List.range its.size).map fun k => its.size - 1 - k).filterMap (its[·]?) := by
    rw [List.filterMap_map]
    have gen : ∀ l : List Nat, (∀ k ∈ l, k < its.size) → l.filterMap (fun (k : Nat) => its[((its.size : Int) - 1 + (k : Int) * -1).toNat]?) = l.filterMap ((fun x => its[x]?) ∘ fun k => its.size - 1 - k) := by
      intro l
      induction l with
      | nil => intro _; rfl
      | cons k l ih =>
        intro hk
        have q : its[((its.size : Int) - 1 + (k : Int) * -1).toNat]? = its[its.size - 1 - k]? := by
          have := hk k List.mem_cons_self
          congr 1
          omega
        rw [List.filterMap_cons, List.filterMap_cons, ih fun j hj => hk j (List.mem_cons_of_mem _ hj)]
        rw [q]
        rfl
    exact gen _ fun k hk => List.mem_range.mp hk
  rw [e, PySem.W.krv_range, List.filterMap_reverse, PySem.W.krv_all]
theorem getItem_back {t sl : Addr} {its : Array Value} {tk : Tok} {Q : Value → Shared → Prop} (ht : PyProof.Rows.IsTup sh.heap t its) (hs : sh.heap.IsSliceOf sl .none .none (.int (-1) tk))
    (h : Q (.ref sh.heap.objs.size) { sh with heap := sh.heap.push { cls := .type "tuple", data := .seq its.toList.reverse.toArray } }) (hz : its.size ≤ sizeLine) : wpAny (model P w) A (getItem (.ref t) (.ref sl)) Q E sh := by
  obtain ⟨o, ho, hc, hd⟩ := id hs
  have isSl : sh.TypeIs (.ref sl) "slice" := ⟨o, ho, hc⟩
  have hfit : sizeOk (.seq its.toList.reverse.toArray) := by
    show its.toList.reverse.toArray.size ≤ sizeLine
    rw [List.size_toArray, List.length_reverse, Array.length_toList]; exact hz
  unfold getItem
  try with_reducible refine wpAny_holding ?_
  first | refine wpAny_bind (wpAny_pure ?_) | skip
  refine wpAny_bind (wpAny_sequenceKey ht.typeIs (by decide) ?_)
  refine wpAny_bind (wpAny_callSpecial?_slot (name := Str.ofString "__getitem__") ht.typeIs PyProof.Rows.slot_tuple_getitem (wpAny_call_entry PyProof.Rows.slot_tuple_getitem ht.typeIs PyProof.Rows.entry_tuple_getitem ?_ (PyProof.Rows.args_tuple_getitem _ _)))
  show wpAny _ _ (Builtin.Tuple.tupleItemsOf (.ref t) >>= _) _ _ sh
  refine wpAny_bind (PyProof.Rows.tupleItemsOf_ ht ?_)
  refine wpAny_bind (wpAny_typeOf isSl ?_)
  rw [if_pos (by decide)]
  refine wpAny_bind (applied_back hs ?_)
  have no : ¬ (((its.size : Int) - 1 == 0 && (-1 : Int) == 1 && its.size == its.size) = true) := by
    intro q
    rw [Bool.and_eq_true, Bool.and_eq_true] at q
    exact absurd q.1.2 (by decide)
  show wpAny _ _ (if ((its.size : Int) - 1 == 0 && (-1 : Int) == 1 && its.size == its.size) = true then _ else _) _ _ sh
  rw [if_neg no, pick_back]
  first
    | exact wpAny_bind (m := Builtin.Tuple.tupleExact _) (wpAny_newObj_type (wpAny_pure ⟨_, rfl, wpAny_pure h⟩) hfit)
    | exact wpAny_bind (wpAny_bind (m := Builtin.Tuple.tupleExact _) (wpAny_newObj_type (wpAny_pure (wpAny_pure ⟨_, rfl, wpAny_pure h⟩)) hfit))
    | exact wpAny_bind (wpAny_bind (m := Builtin.Tuple.tupleExact _) (wpAny_newObj_type (wpAny_pure ⟨_, rfl, wpAny_pure h⟩) hfit))
end
def tBack (K : PySem.W.Frag) (te : TE) : TE := fun sg H Q => te sg H fun x H1 => ∃ a ws, x = .ref a ∧ ((SqL K H1 a ws ∧ ∀ p, H1 p = none → Q (.ref p) (upd H1 p (.lst ws.reverse))) ∨ (SqT K H1 a ws ∧ ∀ p, H1 p = none → Q (.ref p) (upd H1 p (.tup ws.reverse))))
section
variable {X : Cx} {xs : XS} {wx : WX} {pos : Pos}
theorem pe_back {e : Expr} {te : TE} {k : Nat} {p1 p2 p3 : Pos} (he : PE X e te) : PE X (.Subscript e (.Slice none none (some (.UnaryOp .USub (.Constant (.int 1) k p1) p2)) p3) pos) (tBack X.K te) := by
  refine ⟨fun pins s sg H Q I h => ?_⟩
  refine PyProof.Rows.Subscript_ (thn (he.run pins s sg H _ I h) fun v s1 ⟨x, H1, I1, r1, q1⟩ => ?_)
  obtain ⟨a, ws, rfl, q⟩ := q1
  cases r1
  have step : PO X (some (.UnaryOp .USub (.Constant (.int 1) k p1) p2)) (tPart (tUn (rU fun i => .int (-i)) (tC (.int 1)))) := po_some (pe_un un_neg pe_int)
  refine wpAny_Slice (thn (po_none.run pins s1 sg H1 (fun o H2 => o = none ∧ H2 = H1) I1 ⟨rfl, rfl⟩) fun vl s2 ⟨l, H2, I2, pl, el, e2⟩ => ?_)
  subst el e2
  refine thn (po_none.run pins s2 sg H2 (fun o H3 => o = none ∧ H3 = H2) I2 ⟨rfl, rfl⟩) fun vu s3 ⟨u, H3, I3, pu, eu, e3⟩ => ?_
  subst eu e3
  refine thn (step.run pins s3 sg H3 (fun o H4 => o = some (-1) ∧ H4 = H3) I3 ⟨1, rfl, -1, rfl, rfl, rfl⟩) fun vs s4 ⟨o, H4, I4, ps, eo, e4⟩ => ?_
  subst eo e4
  have I5 : Inv X pins sg H4 { s4 with heap := s4.heap.push { cls := .type "slice", data := .fields #[vl, vu, vs] } } := I4.kept (t' := s4.toks) fun b ob z => Heap.get?_push_of_some _ z
  show wpAny (model X.prog X.w) X.A (PyProof.Rows.subscriptTail e (.Slice none none (some (.UnaryOp .USub (.Constant (.int 1) k p1) p2)) p3) (.ref a) (.ref s4.heap.objs.size)) (EP X pins sg Q) X.xe { s4 with heap := s4.heap.push { cls := .type "slice", data := .fields #[vl, vu, vs] } }
  rcases q with ⟨sq, q⟩ | ⟨sq, q⟩
  · obtain ⟨its, r, ht, hz⟩ := I5.list sq
    have hlen := r.length
    refine PyProof.Rows.tail_any (ops := [.ref a, .ref s4.heap.objs.size]) ht.isList.typeIs (PySem.slot_list_getitem.lookup) ?_ (by with_unfolding_all rfl)
    refine wpAny_getItem_list_slice ht.isList (Heap.IsSliceOf.new _ vl vu vs) pl pu ps (by decide) ?_ (by rw [List.size_toArray]; omega)
    rw [PySem.W.krv_pick]
    exact ⟨.ref _, _, I5.laid (t' := s4.toks) (o := .lst ws.reverse) (fun b ob z => Heap.get?_push_of_some _ z) (Nat.le_refl _) ⟨by rw [List.length_reverse]; exact hz, _, 0, r.reverse, Heap.get?_push_size _ rfl⟩, rfl, q _ (I5.hok.fresh (Nat.le_refl _))⟩
  · obtain ⟨its, r, ht, hz⟩ := I5.tuple sq
    have hlen := r.length
    refine PyProof.Rows.tail_any (ops := [.ref a, .ref s4.heap.objs.size]) ht.typeIs (PyProof.Rows.slot_tuple_getitem.lookup) ?_ (by with_unfolding_all rfl)
    cases pl
    cases pu
    cases ps
    refine getItem_back ht (Heap.IsSliceOf.new _ _ _ _) ?_ (by rw [List.size_toArray]; omega)
    exact ⟨.ref _, _, I5.laid (t' := s4.toks) (o := .tup ws.reverse) (fun b ob z => Heap.get?_push_of_some _ z) (Nat.le_refl _) ⟨by rw [List.length_reverse]; exact hz, _, r.reverse, PyProof.Rows.IsTup.new _ _⟩, rfl, q _ (I5.hok.fresh (Nat.le_refl _))⟩
def ap1 (g : U → Option U) (f : DE) : DE := fun env st => (f env st).bind fun u st1 => Rs.of (g u) st1
def back1 : U → Option U
  | .lst us => some (.lst us.reverse)
  | .tup us => some (.tup us.reverse)
  | _ => none
theorem Reps.reverse {K : PySem.W.Frag} {W : Addr → Prop} {io : List Addr} {H : Hp} : ∀ {us : List U} {vs : List V}, Reps K W io H us vs → Reps K W io H us.reverse vs.reverse
  | [], _, h => by rw [h.isNil]; exact .nil
  | u :: us, _, h => by
    obtain ⟨v, r, rfl, q, t⟩ := h.uncons
    rw [List.reverse_cons, List.reverse_cons]
    exact t.reverse.append (.cons q .nil)
theorem d_back {e : Expr} {f : DE} {k : Nat} {p1 p2 p3 : Pos} (he : PE X e (tD X.K xs wx f)) : PE X (.Subscript e (.Slice none none (some (.UnaryOp .USub (.Constant (.int 1) k p1) p2)) p3) pos) (tD X.K xs wx (ap1 back1 f)) :=
  pe_imp (pe_back he) fun sg H Q h => by
    obtain ⟨G, io, st, env, ok, er, w⟩ := h
    refine ⟨G, io, st, env, ok, er, w.bind.impR fun st1 io1 H1 u ok1 e1 w1 v rv => ?_⟩
    obtain ⟨r, hr, w2⟩ := w1.pure
    unfold back1 at hr
    split at hr
    · cases hr
      obtain ⟨a, ys, rfl, l, r'⟩ := rv.lst'
      exact ⟨a, ys, rfl, .inl ⟨l.sq, fun p hp => w2.hereS ok1 (same_upd hp) _ (ok1.newL hp r'.reverse)⟩⟩
    · cases hr
      obtain ⟨a, ys, rfl, l, r'⟩ := rv.tup'
      exact ⟨a, ys, rfl, .inr ⟨l.sq, fun p hp => w2.hereS ok1 (same_upd hp) _ (ok1.newT hp r'.reverse)⟩⟩
    · cases hr
end
@[simp] theorem ap1_ap (g : U → Option U) (f : DE) (env : Env) (st : Store) : ap1 g f env st = (f env st).bind fun u st1 => Rs.of (g u) st1 := (rfl)
@[simp] theorem itE_ap (g : U → Option (List U)) (f : DE) (env : Env) (st : Store) : itE g f env st = (f env st).bind fun u st1 => Rs.of (g u) st1 := (rfl)
end D
namespace D
open PySem L2
/-- a loop that looks at each thing and ends with r at the first that fails -/
theorem for_check {t : Tg} {b : DS} {st : Store} {r : U} (I : Nat → Env → Prop) (c : Nat → Bool) : ∀ (us : List U) (n : Nat) (env : Env), I n env →
    (∀ k u env, us[k]? = some u → I (n + k) env → (∀ j, j < k → c (n + j) = true) → ∃ l, t u = some l ∧ ((c (n + k) = true ∧ ∃ env', (b (setE env l) st = .nx env' st ∨ b (setE env l) st = .ct env' st) ∧ I (n + k + 1) env') ∨ (c (n + k) = false ∧ b (setE env l) st = .rt r st))) →
    ((∀ k, k < us.length → c (n + k) = true) ∧ ∃ env', forL t b us env st = .nx env' st ∧ I (n + us.length) env') ∨ ((∃ k, k < us.length ∧ c (n + k) = false) ∧ forL t b us env st = .rt r st)
  | [], n, env, h, _ => .inl ⟨fun k hk => absurd hk (Nat.not_lt_zero _), env, rfl, h⟩
  | u :: us, n, env, h, step => by
    obtain ⟨l, h1, h2⟩ := step 0 u env rfl h (fun j hj => absurd hj (Nat.not_lt_zero _))
    rcases h2 with ⟨hc, env1, h2, h3⟩ | ⟨hc, h2⟩
    · have ih := for_check I c us (n + 1) env1 h3 fun k v e hk hi hj => by
        have q := step (k + 1) v e (by simpa using hk) (by rw [show n + (k + 1) = n + 1 + k by omega]; exact hi) (fun j hj' => by
          cases j with
          | zero => exact hc
          | succ j => rw [show n + (j + 1) = n + 1 + j by omega]; exact hj j (by omega))
        rw [show n + (k + 1) = n + 1 + k by omega] at q
        exact q
      have e : forL t b (u :: us) env st = forL t b us env1 st := by
        rw [for_cons, h1]
        rcases h2 with h2 | h2 <;> simp only [h2]
      rcases ih with ⟨i1, env2, i2, i3⟩ | ⟨⟨k, i1, i2⟩, i3⟩
      · refine .inl ⟨fun k hk => ?_, env2, by rw [e]; exact i2, by rw [List.length_cons, show n + (us.length + 1) = n + 1 + us.length by omega]; exact i3⟩
        cases k with
        | zero => exact hc
        | succ k => rw [show n + (k + 1) = n + 1 + k by omega]; exact i1 k (by simpa using hk)
      · exact .inr ⟨⟨k + 1, by simpa using i1, by rw [show n + (k + 1) = n + 1 + k by omega]; exact i2⟩, by rw [e]; exact i3⟩
    · refine .inr ⟨⟨0, Nat.zero_lt_succ _, hc⟩, ?_⟩
      rw [for_cons, h1]
      simp only [h2]
theorem for_check0 {t : Tg} {b : DS} {st : Store} {r : U} (I : Nat → Env → Prop) (c : Nat → Bool) (us : List U) (env : Env) (h0 : I 0 env)
    (step : ∀ k u env, us[k]? = some u → I k env → (∀ j, j < k → c j = true) → ∃ l, t u = some l ∧ ((c k = true ∧ ∃ env', (b (setE env l) st = .nx env' st ∨ b (setE env l) st = .ct env' st) ∧ I (k + 1) env') ∨ (c k = false ∧ b (setE env l) st = .rt r st))) :
    ((List.range us.length).all c = true ∧ ∃ env', forL t b us env st = .nx env' st ∧ I us.length env') ∨ ((List.range us.length).all c = false ∧ forL t b us env st = .rt r st) := by
  have q := for_check (r := r) I c us 0 env h0 (fun k u e hk hi hj => by
    have := step k u e hk (by simpa using hi) (fun j hj' => by simpa using hj j hj')
    simpa using this)
  rcases q with ⟨h1, h2⟩ | ⟨⟨k, h1, h2⟩, h3⟩
  · refine .inl ⟨?_, by simpa using h2⟩
    rw [List.all_eq_true]
    intro k hk
    simpa using h1 k (List.mem_range.mp hk)
  · refine .inr ⟨?_, h3⟩
    rw [List.all_eq_false]
    exact ⟨k, List.mem_range.mpr h1, by simpa using h2⟩
@[simp] theorem tgT2_ap (i j : Nat) (a b : U) : tgT [i, j] (.tup [a, b]) = some [(i, a), (j, b)] := by
  unfold tgT
  rfl
@[simp] theorem tgT3_ap (i j k : Nat) (a b c : U) : tgT [i, j, k] (.tup [a, b, c]) = some [(i, a), (j, b), (k, c)] := by
  unfold tgT
  rfl
end D
namespace C
open PySem L2 D
/-! ### words -/
def letters : List Nat := (Str.ofString "abcdefghijklmnopqrstuvwxyz").cps.toList
def isWordS (x : Str) : Bool := decide (1 ≤ x.length) && decide (x.length ≤ 8) && x.cps.toList.all (fun c => decide (c ∈ letters))
def valid (x : Str) : Bool := x.cps.all (· < 0x110000)
/-- a thing of which the type is known, a text no too long one -/
def tame : U → Bool
  | .str x => decide (x.length ≤ 16777216) && valid x
  | u => (tyU u).isSome
def wordU : U → Bool
  | .str x => isWordS x
  | _ => false
theorem wordU_str {u : U} (h : wordU u = true) : ∃ x, u = .str x ∧ isWordS x = true := by
  cases u <;> first | exact ⟨_, rfl, h⟩ | cases h
theorem tame_ty {u : U} (h : tame u = true) : ∃ t, tyU u = some t := by
  cases u <;> first | exact ⟨_, rfl⟩ | cases h
def b_is_word : DS := (sSeq (sIf (orT (notT (tst (appN isiN (acons (var 0) (acons (cst (.ty "str")) anil))))) (notT (tst (chain le2 le2 (cst (.int 1)) (appN lenN (acons (var 0) anil)) (cst (.int 8)))))) (sSeq (sRet (cst (.bl false))) sNil) sNil) (sSeq (sRet (appN allN (acons (newL (compD (itemsD (var 0)) [1] (tgN 1) yesT (bin in2 (var 1) (cst (.str (Str.ofString "abcdefghijklmnopqrstuvwxyz")))))) anil))) sNil))
def f_is_word : List U → Store → Rs U := runB 2 1 b_is_word
theorem is_word_str (x : Str) (hx : x.length ≤ 16777216) (st : Store) : f_is_word [.str x] st = .ok (.bl (isWordS x)) st := by
  unfold f_is_word b_is_word isWordS
  by_cases h1 : 1 ≤ x.length
  · by_cases h8 : x.length ≤ 8
    · have i1 : (1 : Int) ≤ x.length := by omega
      have i8 : (x.length : Int) ≤ 8 := by omega
      have hc : compL (tgN 1) yesT (D.bin in2 (var 1) (cst (U.str (Str.ofString "abcdefghijklmnopqrstuvwxyz")))) (x.cps.toList.map fun c => U.str ⟨#[c]⟩) [.val (.str x), .un] st = .ok (x.cps.toList.map fun c => U.bl (decide (c ∈ letters))) st :=
        comp_allM _ fun c _ => ⟨_, rfl, by simp [in2, letters]⟩
      have hb : boolsU (x.cps.toList.map fun c => U.bl (decide (c ∈ letters))) = some (x.cps.toList.map fun c => decide (c ∈ letters)) := by
        have := bools_map (x.cps.toList.map fun c => decide (c ∈ letters))
        rw [List.map_map] at this
        exact this
      have hs : x.cps.size ≤ 16777216 := hx
      simp [isiN, tyU, tyNames, isB, lenN, hx, le2, i1, i8, h1, h8, items, wipeE, hs, hc, allN, hb]
    · have i1 : (1 : Int) ≤ x.length := by omega
      have i8 : ¬ (x.length : Int) ≤ 8 := by omega
      simp [isiN, tyU, tyNames, isB, lenN, hx, le2, i1, i8, h1, h8]
  · have i1 : ¬ (1 : Int) ≤ x.length := by omega
    simp [isiN, tyU, tyNames, isB, lenN, hx, le2, i1, h1]
theorem is_word_no {u : U} {t : String} (ht : tyU u = some t) (hs : t ≠ "str") (st : Store) : f_is_word [u] st = .ok (.bl false) st := by
  unfold f_is_word b_is_word
  simp [isiN, ht, tyNames, isB, hs]
theorem tame_str {x : Str} (h : tame (.str x) = true) : x.length ≤ 16777216 ∧ valid x = true := by
  unfold tame at h
  rw [Bool.and_eq_true, decide_eq_true_eq] at h
  exact h
theorem is_word_any {u : U} (h : tame u = true) (st : Store) : f_is_word [u] st = .ok (.bl (wordU u)) st := by
  cases u with
  | str x => exact is_word_str x (tame_str h).1 st
  | non => exact is_word_no rfl (by decide) st
  | bl b => exact is_word_no rfl (by decide) st
  | int i => exact is_word_no rfl (by decide) st
  | tup us => exact is_word_no rfl (by decide) st
  | lst us => exact is_word_no rfl (by decide) st
  | dct ks us => exact is_word_no rfl (by decide) st
  | scr us => exact is_word_no rfl (by decide) st
  | ref n => cases h
  | ty n => cases h
/-- the signs of a text that are no letters -/
def oddL (x : Str) : List U := (x.cps.toList.filter fun c => !decide (c ∈ letters)).map fun c => U.str ⟨#[c]⟩
theorem odd_comp (x : Str) (i : Nat) (env : D.Env) (hi : i < env.length) (st : Store) (v : DE) (hv : ∀ c : Nat, v (env.set i (.val (.str ⟨#[c]⟩))) st = .ok (.str ⟨#[c]⟩) st) : compL (tgN i) (tst (D.bin nin2 v (cst (U.str (Str.ofString "abcdefghijklmnopqrstuvwxyz"))))) v (x.cps.toList.map fun c => U.str ⟨#[c]⟩) env st = .ok (oddL x) st :=
  comp_filterM _ fun c _ => ⟨_, rfl, by simp [hv, nin2, letters], fun _ => by simp [hv]⟩
theorem odd_okU (x : Str) (hv : valid x = true) : okU 1 (.lst (oddL x)) = true := by
  unfold okU
  rw [List.all_eq_true]
  intro u hu
  obtain ⟨c, hc, rfl⟩ := List.mem_map.mp hu
  have hc := (List.mem_filter.mp hc).1
  unfold okU
  unfold valid at hv
  rw [Array.all_eq_true] at hv
  obtain ⟨i, hi, e⟩ := List.getElem_of_mem hc
  have := hv i (by simpa using hi)
  rw [Array.getElem_toList] at e
  rw [e] at this
  simpa using this
theorem odd_empty (x : Str) : (oddL x).isEmpty = x.cps.toList.all (fun c => decide (c ∈ letters)) := by
  unfold oddL
  rw [List.isEmpty_map]
  cases q : x.cps.toList.all (fun c => decide (c ∈ letters)) with
  | true =>
    rw [List.isEmpty_iff, List.filter_eq_nil_iff]
    intro c hc
    rw [List.all_eq_true] at q
    simpa using q c hc
  | false =>
    rw [List.isEmpty_eq_false_iff, Ne, List.filter_eq_nil_iff]
    intro z
    rw [← Bool.not_eq_true, List.all_eq_true] at q
    exact q fun c hc => by simpa using z c hc
theorem odd_size (x : Str) (h : x.length ≤ 16777216) : (oddL x).length ≤ 16777216 := by
  unfold oddL
  rw [List.length_map]
  exact Nat.le_trans (List.length_filter_le _ _) (by simpa [Str.length] using h)
/-! ### leaves -/
def ltU : U → U → Bool
  | .str x, .str y => ltC x y
  | _, _ => false
def leafAt (us : List U) (k : Nat) : Bool := wordU (us.getD k .non) && (decide (k = 0) || ltU (us.getD (k - 1) .non) (us.getD k .non))
def areL : U → Bool
  | .tup us => decide (us.length ≤ 8) && (List.range us.length).all (leafAt us)
  | _ => false
def b_are_leaves : DS := (sSeq (sIf (orT (notT (tst (appN isiN (acons (var 0) (acons (cst (.ty "tuple")) anil))))) (tst (bin gt2 (appN lenN (acons (var 0) anil)) (cst (.int 8))))) (sSeq (sRet (cst (.bl false))) sNil) sNil) (sSeq (sFor (itA enumerateN (acons (var 0) anil)) (tgT [1, 2]) (sSeq (sIf (orT (notT (tst (appU f_is_word (acons (var 2) anil)))) (andT (tst (bin gt2 (var 1) (cst (.int 0)))) (tst (bin le2 (var 2) (bin ix2 (var 0) (bin sub2 (var 1) (cst (.int 1)))))))) (sSeq (sRet (cst (.bl false))) sNil) sNil) sNil)) (sSeq (sRet (cst (.bl true))) sNil)))
def b_leavesTurn : DS := (sSeq (sIf (orT (notT (tst (appU f_is_word (acons (var 2) anil)))) (andT (tst (bin gt2 (var 1) (cst (.int 0)))) (tst (bin le2 (var 2) (bin ix2 (var 0) (bin sub2 (var 1) (cst (.int 1)))))))) (sSeq (sRet (cst (.bl false))) sNil) sNil) sNil)
def f_are_leaves : List U → Store → Rs U := runB 3 1 b_are_leaves
theorem getD_of {us : List U} {k : Nat} {u : U} (h : us[k]? = some u) : us.getD k .non = u := by
  rw [List.getD_eq_getElem?_getD, h]; rfl
theorem leaf_str {us : List U} {k : Nat} (h : leafAt us k = true) : ∃ x, us.getD k .non = .str x := by
  unfold leafAt at h
  rw [Bool.and_eq_true] at h
  obtain ⟨x, e, _⟩ := wordU_str h.1
  exact ⟨x, e⟩
theorem ix_tup {us : List U} {k : Nat} {u : U} (h : us[k]? = some u) : ix2 (.tup us) (.int (k : Int)) = some u := atI_at h
set_option maxHeartbeats 2000000 in
theorem leaves_turn (us : List U) (k : Nat) (u : U) (s1 s2 : Sl) (st : Store) (hk : us[k]? = some u) (ht : tame u = true) (hj : ∀ j, j < k → leafAt us j = true) :
    b_leavesTurn [.val (.tup us), .val (.int (k : Int)), .val u] st = if leafAt us k = true then .nx [.val (.tup us), .val (.int (k : Int)), .val u] st else .rt (.bl false) st := by
  have e1 := is_word_any ht st
  have ed := getD_of hk
  unfold b_leavesTurn leafAt
  rw [ed]
  cases hw : wordU u with
  | false => simp [e1, hw]
  | true =>
    obtain ⟨x, rfl, _⟩ := wordU_str hw
    cases k with
    | zero => simp [e1, hw, gt2]
    | succ k =>
      obtain ⟨y, ey⟩ := leaf_str (hj k (Nat.lt_succ_self _))
      have hl : k < us.length := by have := (List.getElem?_eq_some_iff.mp hk).1; omega
      have ek : us[k]? = some (.str y) := by
        rw [List.getElem?_eq_getElem hl]
        rw [List.getD_eq_getElem?_getD, List.getElem?_eq_getElem hl] at ey
        exact congrArg some ey
      have ix := ix_tup ek
      have g1 : (0 : Int) < (k : Int) + 1 := by omega
      have g2 : (k : Int) + 1 - 1 = k := by omega
      cases hlt : ltC y x with
      | true => simp [e1, hw, gt2, sub2, g1, g2, ix, le2, ltU, ey, hlt, -List.getD_eq_getElem?_getD]
      | false => simp [e1, hw, gt2, sub2, g1, g2, ix, le2, ltU, ey, hlt, -List.getD_eq_getElem?_getD]
theorem num_get (us : List U) (k : Nat) (u : U) (h : (numU us)[k]? = some u) : ∃ v, us[k]? = some v ∧ u = .tup [.int (k : Int), v] := by
  unfold numU at h
  rw [List.getElem?_mapIdx, Option.map_eq_some_iff] at h
  obtain ⟨v, h1, h2⟩ := h
  exact ⟨v, h1, h2.symm⟩
theorem num_len (us : List U) : (numU us).length = us.length := by unfold numU; exact List.length_mapIdx
theorem are_leaves_tup (us : List U) (h : us.all tame = true) (st : Store) : f_are_leaves [.tup us] st = .ok (.bl (areL (.tup us))) st := by
  have e2 : b_are_leaves = (sSeq (sIf (orT (notT (tst (appN isiN (acons (var 0) (acons (cst (.ty "tuple")) anil))))) (tst (bin gt2 (appN lenN (acons (var 0) anil)) (cst (.int 8))))) (sSeq (sRet (cst (.bl false))) sNil) sNil) (sSeq (sFor (itA enumerateN (acons (var 0) anil)) (tgT [1, 2]) b_leavesTurn) (sSeq (sRet (cst (.bl true))) sNil))) := rfl
  unfold f_are_leaves areL
  rw [e2]
  by_cases h8 : us.length ≤ 8
  · have i8 : ¬ (8 : Int) < us.length := by omega
    have q := for_check0 (t := tgT [1, 2]) (b := b_leavesTurn) (st := st) (r := .bl false) (fun _ env => ∃ s1 s2, env = [.val (.tup us), s1, s2]) (leafAt us) (numU us) [.val (.tup us), .un, .un] ⟨_, _, rfl⟩ (fun k u env hk hI hj => by
      obtain ⟨s1, s2, rfl⟩ := hI
      obtain ⟨v, hv, rfl⟩ := num_get us k u hk
      rw [List.all_eq_true] at h
      have e := leaves_turn us k v s1 s2 st hv (h v (List.mem_of_getElem? hv)) hj
      refine ⟨_, tgT2_ap _ _ _ _, ?_⟩
      cases hc : leafAt us k with
      | true => rw [hc, if_pos rfl] at e; exact .inl ⟨rfl, _, .inl e, _, _, rfl⟩
      | false => rw [hc, if_neg Bool.false_ne_true] at e; exact .inr ⟨rfl, e⟩)
    rw [num_len] at q
    rcases q with ⟨q1, env', q2, s1, s2, rfl⟩ | ⟨q1, q2⟩
    · simp [isiN, tyU, tyNames, isB, lenN, gt2, i8, enumerateN, q2, h8, q1, -List.all_eq_true]
    · simp [isiN, tyU, tyNames, isB, lenN, gt2, i8, enumerateN, q2, h8, q1, -List.all_eq_true, -List.all_eq_false]
  · have i8 : (8 : Int) < us.length := by omega
    simp [isiN, tyU, tyNames, isB, lenN, gt2, i8, h8]
theorem are_leaves_no {u : U} {t : String} (ht : tyU u = some t) (hs : t ≠ "tuple") (st : Store) : f_are_leaves [u] st = .ok (.bl (areL u)) st := by
  have e : areL u = false := by
    cases u with
    | tup us => cases ht; exact absurd rfl hs
    | _ => rfl
  rw [e]
  unfold f_are_leaves b_are_leaves
  simp [isiN, ht, tyNames, isB, hs]
end C
namespace D
open PySem L2 PySem.Spec PyProof.Rows
/-! ### sets of texts -/
abbrev SKd (P : Program) (w : World) : PySem.KeyKind P w Str := PySem.strKind P w
def GoodT (P : Program) (w : World) (e : Int × Value) : Prop := ∃ x tk, e.2 = Value.str x tk ∧ e.1 = (SKd P w).hash x
def txtOf (e : Int × Value) : Str := match e.2 with
  | .str x _ => x
  | _ => Str.empty
/-- a set of just these texts lies at a -/
def SetS (P : Program) (w : World) (h : Heap) (a : Addr) (L : List Str) : Prop :=
  ∃ o es ep t, h.get? a = some o ∧ o.ExactSet ∧ o.data = .set es ep t ∧ (∀ e ∈ es.toList, GoodT P w e) ∧ (es.toList.map txtOf).Perm L ∧ L.Nodup ∧ es.size < scanBound ∧ t.fits es.size = true ∧ Ris t.place.toList ∧
    (w.params.followText "set-order" = true ∨ t.led = true)
section
variable {P : Program} {w : World} {h h' : Heap} {a : Addr} {L : List Str}
theorem SetS.at (R : SetS P w h a L) (k : ∀ o, h.get? a = some o → h'.get? a = some o) : SetS P w h' a L := by
  obtain ⟨o, es, ep, t, ho, r⟩ := R
  exact ⟨o, es, ep, t, k o ho, r⟩
theorem goodT_elems {l : List (Int × Value)} (g : ∀ e ∈ l, GoodT P w e) : ElemsOf (SKd P w) l := fun e he => by
  obtain ⟨x, tk, e1, e2⟩ := g e he
  exact ⟨⟨x, by rw [e1]; exact strKind_is P w x tk, e2⟩, by rw [e1] <;> rfl⟩
theorem goodT_is {e : Int × Value} (g : GoodT P w e) (x : Str) : (SKd P w).is x e.2 = true ↔ txtOf e = x := by
  obtain ⟨y, tk, e1, _⟩ := g
  unfold txtOf
  rw [e1]
  have q := KeyKind.is_eq_decide (knd := SKd P w) (strKind_is P w y tk) x
  rw [q, decide_eq_true_eq]
  exact eq_comm
end
section
variable {P : Program} {w : World} {A : Around} {E : Value → Shared → Prop} {s : Shared} {a : Addr} {L : List Str}
theorem stored {h : Heap} {o : Obj} {es es2 : Array (Int × Value)} {ep : Nat} {t t2 : SetTable} (ho : h.get? a = some o) (hd : o.data = .set es ep t) : (h.update a (Obj.putSet es2 t2)).get? a = some { o with data := .set es2 (ep + 1) t2 } := by
  have q := Heap.get?_update_self (Obj.putSet es2 t2) ho (by rw [putSet_of es2 t2 hd]; rfl)
  rw [putSet_of es2 t2 hd] at q
  exact q
theorem addS_tail {g : Bool → Sem Unit} (hg : ∀ (b : Bool) (s1 : Shared) (Q2 : Unit → Shared → Prop), Q2 () s1 → wpAny (model P w) A (g b) Q2 E s1)
    {o : Obj} {es : Array (Int × Value)} {ep : Nat} {t : SetTable} (ho : s.heap.get? a = some o) (hex : o.ExactSet) (hd : o.data = .set es ep t)
    {es2 : Array (Int × Value)} {t2 : SetTable} {L2 : List Str} (g2 : ∀ e ∈ es2.toList, GoodT P w e) (pm2 : (es2.toList.map txtOf).Perm L2) (nd2 : L2.Nodup)
    (hb2 : es2.size < scanBound) (hf2 : t2.fits es2.size = true) (hr : Ris t2.place.toList) (hl : w.params.followText "set-order" = true ∨ t2.led = true) {dm : Bool} {R : Option Bool → Shared → Prop}
    (hR : ∀ h', Heap.SameBut a s.heap h' → SetS P w h' a L2 → R (some true) { s with heap := h' }) :
    wpAny (model P w) A (do
        storeSet a es2 t2
        if (!dm && t2.tooFull) = true then do
            g (relayAll t2 es2 (SetTable.grown es2.size)).2.2
            storeSet a (relayAll t2 es2 (SetTable.grown es2.size)).1 (relayAll t2 es2 (SetTable.grown es2.size)).2.1
            pure (some true)
          else pure (some true)) R E s := by
  refine wpAny_bind (wpAny_storeSet_of ho hd ?_ (fits_of_scanBound hb2))
  have o1 := stored (es2 := es2) (t2 := t2) ho hd
  have sb := Heap.SameBut.update s.heap a (Obj.putSet es2 t2)
  split
  · have p1 := relayAll_perm t2 es2 (SetTable.grown es2.size)
    have p2 := relayAll_fits t2 es2 (SetTable.grown es2.size)
    have p3 := relayAll_ris t2 es2 (SetTable.grown es2.size)
    have p4 := relayAll_led t2 es2 (SetTable.grown es2.size)
    generalize relayAll t2 es2 (SetTable.grown es2.size) = Z at p1 p2 p3 p4 ⊢
    obtain ⟨es3, t3, gv⟩ := Z
    dsimp only at p1 p2 p3 p4 ⊢
    have hz : es3.size = es2.size := by rw [← Array.length_toList, p1.length_eq, Array.length_toList]
    have hb3 : es3.size < scanBound := by rw [hz]; exact hb2
    refine wpAny_bind (hg _ _ _ ?_)
    refine wpAny_bind (wpAny_storeSet_of o1 rfl ?_ (fits_of_scanBound hb3))
    refine wpAny_pure (hR _ (sb.trans (Heap.SameBut.update _ a _)) ?_)
    exact ⟨_, es3, _, t3, stored (es2 := es3) (t2 := t3) o1 rfl, hex, rfl, fun e he => g2 e (p1.mem_iff.mp he), (p1.map txtOf).trans pm2, nd2, hb3, p2, p3, hl.imp id fun z => by rw [p4]; exact z⟩
  · exact wpAny_pure (hR _ sb ⟨_, es2, _, t2, o1, hex, rfl, g2, pm2, nd2, hb2, hf2, hr, hl⟩)
/-- what is there when x was added -/
def plusS (L : List Str) (x : Str) : List Str := if x ∈ L then L else x :: L
theorem addS_hashed {x : Str} {tk : Tok} {Q : Bool → Shared → Prop} (R : SetS P w s.heap a L) (room : L.length + 1 < scanBound) (hQ : ∀ h' b, Heap.SameBut a s.heap h' → SetS P w h' a (plusS L x) → Q b { s with heap := h' }) :
    wpAny (model P w) A (setAddHashed a (.str x tk) ((SKd P w).hash x)) Q E s := by
  obtain ⟨o, es, ep, t, ho, hex, hd, g, pm, nd, hb, hf, hr, hl⟩ := R
  have isx : (SKd P w).is x (.str x tk) = true := strKind_is P w x tk
  have scx : (Value.str x tk).scannable = true := rfl
  have els : ElemsOf (SKd P w) es.toList := goodT_elems g
  have hlen : es.size = L.length := by rw [← pm.length_eq, List.length_map, Array.length_toList]
  unfold setAddHashed setAddHashedIn
  refine wpAny_holding (wpAny_bind (wpAny_setState_of ho hd hf ?_))
  dsimp only
  rw [byScan_of scx hb els]
  simp only [↓reduceIte]
  unfold setAddByScan
  refine wpAny_bind ?_
  refine wpAny_bind (wpAny_rule ?_)
  refine wpAny_bind (wpAny_setScan_of isx ho hd hf els ?_)
  cases hfi : List.findIdx? (fun e => (SKd P w).is x e.2) es.toList with
  | some j =>
    dsimp only
    obtain ⟨hj, pj, _⟩ := List.findIdx?_eq_some_iff_getElem.mp hfi
    have hx : x ∈ L := pm.mem_iff.mp (List.mem_map.mpr ⟨es.toList[j], List.getElem_mem hj, (goodT_is (g _ (List.getElem_mem hj)) x).mp pj⟩)
    refine wpAny_pure (wpAny_pure ?_)
    refine hQ s.heap _ (Heap.SameBut.refl a s.heap) ?_
    unfold plusS
    rw [if_pos hx]
    exact ⟨o, es, ep, t, ho, hex, hd, g, pm, nd, hb, hf, hr, hl⟩
  | none =>
    dsimp only
    have hx : x ∉ L := fun z => by
      obtain ⟨e, he, q⟩ := List.mem_map.mp (pm.mem_iff.mpr z)
      have c := List.findIdx?_eq_none_iff.mp hfi e he
      rw [(goodT_is (g e he) x).mpr q] at c
      cases c
    have gw : ∀ (b : Bool) {s1 : Shared} {Q2 : Unit → Shared → Prop}, Q2 () s1 → wpAny (model P w) A (match b with | true => rule "set.scan.the-table-gave-way" | false => pure ()) Q2 E s1 := fun b s1 Q2 q => by
      cases b <;> first | exact wpAny_pure q | exact wpAny_rule q
    have p1 := layNew_perm t es ((SKd P w).hash x) (.str x tk)
    have p2 := layNew_fits t es ((SKd P w).hash x) (.str x tk)
    have p3 := layNew_ris t es ((SKd P w).hash x) (.str x tk) hr
    have p4 := layNew_led t es ((SKd P w).hash x) (.str x tk)
    generalize layNew t es ((SKd P w).hash x) (.str x tk) = Z at p1 p2 p3 p4 ⊢
    obtain ⟨es2, t2, dm, gv⟩ := Z
    dsimp only at p1 p2 p3 p4 ⊢
    rw [Array.toList_push] at p1
    have pc : es2.toList.Perm (((SKd P w).hash x, Value.str x tk) :: es.toList) := p1.trans (List.perm_append_singleton _ _)
    have pk : (es2.toList.map txtOf).Perm (plusS L x) := by
      unfold plusS
      rw [if_neg hx]
      exact (pc.map txtOf).trans (List.Perm.cons x pm)
    have nd2 : (plusS L x).Nodup := by
      unfold plusS
      rw [if_neg hx]
      exact List.nodup_cons.mpr ⟨hx, nd⟩
    have g2 : ∀ e ∈ es2.toList, GoodT P w e := fun e he => by
      rcases List.mem_cons.mp (pc.mem_iff.mp he) with z | z
      · rw [z]; exact ⟨x, tk, rfl, rfl⟩
      · exact g e z
    have hz : es2.size = L.length + 1 := by rw [← Array.length_toList, pc.length_eq, List.length_cons, Array.length_toList, hlen]
    have hb2 : es2.size < scanBound := by rw [hz]; exact room
    have hled : w.params.followText "set-order" = true ∨ t2.led = true := hl.imp id fun z => by rw [p4]; exact z
    refine wpAny_bind (gw _ ?_)
    split
    · refine wpAny_bind ?_
      rw [hashByValue_scannable 8 scx]
      refine wpAny_pure ?_
      refine addS_tail ?_ ho hex hd g2 pk nd2 hb2 ?_ ?_ ?_ ?_
      · intro b s1 Q2 q; cases b <;> first | exact wpAny_pure q | exact wpAny_rule q
      · first | (split <;> first | exact p2 | exact SetTable.fits_plain_off p2) | exact p2
      · first | (split <;> exact p3) | exact p3
      · first | (split <;> exact hled) | exact hled
      · intro h' sb r; dsimp only; exact wpAny_pure (hQ h' _ sb r)
    · refine wpAny_bind (wpAny_pure ?_)
      simp only [↓reduceIte]
      refine addS_tail ?_ ho hex hd g2 pk nd2 hb2 p2 p3 hled ?_
      · intro b s1 Q2 q; cases b <;> first | exact wpAny_pure q | exact wpAny_rule q
      · intro h' sb r; dsimp only; exact wpAny_pure (hQ h' _ sb r)
end
end D
namespace D
open PySem L2 PySem.Spec PyProof.Rows
theorem strs_get : ∀ {us : List Value} {ys : List Str}, StrsAre us ys → ∀ (i : Nat) (v : Value), us[i]? = some v → ∃ x t, ys[i]? = some x ∧ v = .str x t
  | _, _, .nil, i, v, h => by simp at h
  | _, _, .cons n t hr, 0, v, h => by simp at h; exact ⟨n, t, rfl, h.symm⟩
  | _, _, .cons n t hr, i + 1, v, h => by
    rw [List.getElem?_cons_succ] at h
    rw [List.getElem?_cons_succ]
    exact strs_get hr i v h
abbrev nset (w : World) : Obj := { cls := .type "set", dict := none, data := .set #[] 0 (.fresh 0 0 (!w.params.followText "set-order")) }
theorem setS_fresh {P : Program} {w : World} {h : Heap} {a : Addr} (ho : h.get? a = some (nset w)) : SetS P w h a [] := by
  refine ⟨_, #[], 0, _, ho, ⟨rfl, rfl, rfl⟩, rfl, fun e he => by simp at he, by simp, List.nodup_nil, by unfold scanBound; decide, rfl, List.Pairwise.nil, ?_⟩
  show _ ∨ (!w.params.followText "set-order") = true
  cases w.params.followText "set-order"
  · exact .inr rfl
  · exact .inl rfl
theorem plus_mem (L : List Str) (x y : Str) : y ∈ plusS L x ↔ y ∈ L ∨ y = x := by
  unfold plusS
  split
  · exact ⟨.inl, fun z => z.elim id fun e => e ▸ ‹_›⟩
  · rw [List.mem_cons]; exact Or.comm
theorem plus_len (L : List Str) (x : Str) : (plusS L x).length ≤ L.length + 1 := by
  unfold plusS
  split
  · omega
  · rw [List.length_cons]; exact Nat.le_refl _
section
variable {P : Program} {w : World} {A : Around} {R : Result → Shared → Prop} {I : Addr} {fp wr : List Addr} {G : Array GenState → Array GenState → Prop} {n : Nat} {Pv : Nat → Value → Prop} {St : Nat → Shared → Prop}
theorem set_loop (W : WalksS P w A.in1 I fp wr G n Pv St) (S : Addr) (nf : S ∉ fp) (ys : List Str) (hn : ys.length = n) (hz : ys.length + 1 < scanBound) (vals : ∀ i v, Pv i v → ∃ x t, ys[i]? = some x ∧ v = .str x t) :
    ∀ (k i : Nat) (s : Shared) (L : List Str), n - i = k → i ≤ n → St i s → SetS P w s.heap S L → (∀ x, x ∈ L ↔ x ∈ ys.take i) → L.length ≤ i →
      (∀ s3 L3, Moved (S :: wr) G s s3 → SetS P w s3.heap S L3 → (∀ x, x ∈ L3 ↔ x ∈ ys) → R (.ok (.ret .none)) s3) → codeAny (model P w) A (.builtin "set.update.loop" ⟨[.ref S, .ref I], []⟩) R s := by
  have nw : S ∉ wr := fun z => nf (W.sub _ z)
  have more : ∀ b ∈ wr, b ∈ S :: wr := fun b hb => List.mem_cons_of_mem _ hb
  intro k
  induction k with
  | zero =>
    intro i s L ek hi hst hS hL hlen hR
    have ein : i = n := by omega
    subst ein
    refine codeAny_builtin PyProof.Rows.F.entry_set_update_loop ?_
    rw [Around.under_plainId PyProof.Rows.F.plain_set_update_loop _]
    show wpAny _ A.in1 (pyNext (.ref I) >>= _) _ _ s
    refine wpAny_bind (W.done s _ _ hst fun s3 hm => ?_)
    show wpAny _ A.in1 (ret Value.none) _ _ s3
    exact wpAny_pure (hR s3 L (hm.mono more) (hS.at fun o e => hm.heap S _ nw e) fun x => by rw [hL x, ← hn, List.take_length])
  | succ k ih =>
    intro i s L ek hi hst hS hL hlen hR
    have hlt : i < n := by omega
    refine codeAny_builtin PyProof.Rows.F.entry_set_update_loop ?_
    rw [Around.under_plainId PyProof.Rows.F.plain_set_update_loop _]
    show wpAny _ A.in1 (pyNext (.ref I) >>= _) _ _ s
    refine wpAny_bind (W.item i s _ _ hlt hst fun v s3 hP hst3 hm => ?_)
    obtain ⟨x, t, hx, rfl⟩ := vals i v hP
    have hS3 : SetS P w s3.heap S L := hS.at fun o e => hm.heap S _ nw e
    show wpAny _ A.in1 (holding [Value.str x t] (setAdd S (.str x t)) >>= _) _ _ s3
    refine wpAny_bind (wpAny_holding ?_)
    unfold setAdd
    refine wpAny_holding ?_
    refine wpAny_bind ((SKd P w).pyHash (k := x) (strKind_is _ _ _ _) ?_)
    refine addS_hashed (s := { s3 with toks := s3.toks + 1 }) hS3 (by omega) fun h' b0 sb hS4 => ?_
    have hL4 : ∀ y, y ∈ plusS L x ↔ y ∈ ys.take (i + 1) := fun y => by
      rw [plus_mem, hL y, List.take_add_one, hx, List.mem_append]
      simp [eq_comm]
    have hl4 : (plusS L x).length ≤ i + 1 := Nat.le_trans (plus_len L x) (Nat.succ_le_succ hlen)
    refine wpAny_pure ⟨plainId_quiet PyProof.Rows.F.plain_set_update_loop _, ih (i + 1) _ _ (by omega) hlt (W.frame _ s3 _ _ hst3 (Nat.le_succ _) fun b hb o e => ?_) hS4 hL4 hl4 fun s5 L5 hm5 hS5 hL5 => ?_⟩
    · rw [sb.2 b (fun z : b = S => nf (by rw [← z]; exact hb))]; exact e
    · refine hR s5 L5 (Moved.trans W.gtrans ((hm.mono more).then_heap (Nat.le_succ _) fun b o hb e => ?_) hm5) hS5 hL5
      rw [sb.2 b (fun z : b = S => hb (by rw [z]; exact List.mem_cons_self))]; exact e
end
section
variable {P : Program} {w : World} {A : Around} {E : Value → Shared → Prop} {s : Shared}
set_option maxHeartbeats 3200000 in
theorem set_of_list {l : Addr} {its : Array Value} {ys : List Str} {Q : Value → Shared → Prop} (hA : A.handled = none) (hl : s.heap.IsList l its) (hi : StrsAre its.toList ys) (hz : ys.length + 1 < scanBound)
    (fin : ∀ (h' : Heap) (tk : Nat) (L : List Str), SetS P w h' s.heap.objs.size L → (∀ x, x ∈ L ↔ x ∈ ys) → (∀ b o, b < s.heap.objs.size → s.heap.get? b = some o → h'.get? b = some o) → Q (.ref s.heap.objs.size) { s with heap := h', toks := tk }) :
    wpAny (model P w) A (call (.type "set") [.ref l]) Q E s := by
  obtain ⟨mc, mt, hmro⟩ := PySem.F.called_set.mro
  have isMade := PySem.F.called_set.made
  have isSub := PySem.F.called_set.sub
  refine wpAny_call (codeAny_of_tree ?_)
  show wpAny _ _ (callAny (.type "set") _) _ _ _
  refine wpAny_pure ⟨Code.quiet_builtin _ (by decide +kernel), codeAny_builtin PySem.F.entry_type_call ?_⟩
  rw [Around.under_plain (weight_type_call_type "set" [.ref l] []) rfl]
  have noTy := PySem.F.called_set.notType
  have canC := PySem.F.called_set.canCreate
  have tcl := PySem.F.typeCall_set_1 (.ref l)
  repeat (any_goals (first | assumption | wp_step))
  refine codeAny_mono (code_set_led1 (.ref l) (E := E) (Q₁ := fun ob s1 => ob = .ref s.heap.objs.size ∧ s1 = { s with heap := s.heap.push (nset w) }) ⟨rfl, rfl⟩) fun r s1 hr => ?_
  cases r with
  | error e => exact hr
  | ok fl =>
    cases fl with
    | ret ob =>
      obtain ⟨rfl, rfl⟩ := hr
      have atS : (s.heap.push (nset w)).get? s.heap.objs.size = some (nset w) := Heap.get?_push_size _ rfl
      have isS : Shared.TypeIs { s with heap := s.heap.push (nset w) } (.ref s.heap.objs.size) "set" := ⟨_, atS, rfl⟩
      have iniL := PySem.F.called_set.init.lookup
      have iniB := PySem.F.called_set.init.bind (.ref s.heap.objs.size)
      repeat (any_goals (first | assumption | wp_step))
      refine codeAny_mono (codeAny_call_builtin (R := wants (fun r s2 => r = .none ∧ ∃ h' tk L, s2 = { s with heap := h', toks := tk } ∧ SetS P w h' s.heap.objs.size L ∧ (∀ x, x ∈ L ↔ x ∈ ys) ∧ (∀ b o, b < s.heap.objs.size → s.heap.get? b = some o → h'.get? b = some o)) E)
        PySem.F.called_set.init.plain PySem.F.entry_set_init (check_set_init_1 isS ?_)) fun r2 s2 hr2 => ?_
      · obtain ⟨⟨oc, od, oD, osl⟩, hol, hcl, ne, hdl⟩ := hl
        simp only at hcl hdl
        subst hcl; subst hdl
        have hol2 : (s.heap.push (nset w)).get? l = some { cls := .type "list", dict := od, data := .seq its ne, slots := osl } := Heap.get?_push_of_some _ hol
        have sub1 := PySem.F.sub_list_set
        have sub2 := PySem.F.sub_list_frozenset
        have noD : (Value.type "list" == Value.type "dict") = false := by decide
        have isL : (s.heap.push (nset w)).IsList l its := ⟨_, hol2, rfl, ne, rfl⟩
        unfold Builtin.«set.__init__» noKeywords Builtin.Frozenset.updateFrom
        generalize hp : pyIter = pI
        wp_walk
        subst hp
        refine wpAny_pyIter_list isL ?_
        refine wpAny_bind (wpAny_runValue ?_)
        have ll : l < s.heap.objs.size := Heap.lt_size hol
        have hA3 : A.in1.in1.in1.handled = none := by simp [hA]
        have zN : (s.heap.push (nset w)).objs.size = s.heap.objs.size + 1 := Heap.size_push ..
        have neI : l ≠ (s.heap.push (nset w)).objs.size := by rw [zN]; exact Nat.ne_of_lt (Nat.lt_succ_of_lt ll)
        have nf : s.heap.objs.size ∉ [(s.heap.push (nset w)).objs.size, l] := by
          rw [zN]; simp only [List.mem_cons, List.not_mem_nil, or_false, not_or]
          exact ⟨Nat.ne_of_lt (Nat.lt_succ_self _), Nat.ne_of_gt ll⟩
        have hn : ys.length = its.size := by rw [← StrsAre.len_eq hi, Array.length_toList]
        have vals : ∀ (i : Nat) (v : Value), its[i]? = some v → ∃ x t, ys[i]? = some x ∧ v = .str x t := fun i v hv => strs_get hi i v (by rw [Array.getElem?_toList]; exact hv)
        refine set_loop ((Walks.list hA3 _ l neI its).toS) s.heap.objs.size nf ys hn hz vals (its.size - 0) 0 _ [] (by omega) (Nat.zero_le _) ⟨⟨_, Heap.get?_push_size _ rfl, rfl, rfl⟩, (isL.push _)⟩ ?z0 (by simp) (by simp) ?zR
        case z0 => exact setS_fresh (Heap.get?_push_of_some _ atS)
        case zR =>
          intro s3 L hm hS3 hL
          obtain ⟨h3, g3, d3, tk3, os3⟩ := s3
          have eg : g3 = s.gens := hm.gens
          have ed : d3 = s.drawn := hm.drawn
          have eo : os3 = s.os := hm.os
          subst eg; subst ed; subst eo
          show wpAny _ _ _ _ _ _
          refine wpAny_pure ?_
          show wpAny _ _ (ret Value.none) _ _ _
          refine wpAny_pure ⟨rfl, h3, tk3, L, rfl, hS3, hL, fun b o hb e => ?_⟩
          refine hm.heap b o ?_ (Heap.get?_push_of_some _ (Heap.get?_push_of_some _ e))
          simp only [List.mem_cons, List.not_mem_nil, or_false, not_or]
          exact ⟨Nat.ne_of_lt hb, by rw [zN]; exact Nat.ne_of_lt (Nat.lt_succ_of_lt hb)⟩
      · cases r2 with
        | error e => exact hr2
        | ok fl2 =>
          cases fl2 with
          | ret r =>
            obtain ⟨rfl, h3, tk, L, rfl, hS3, hL, hk3⟩ := hr2
            repeat (any_goals (first | assumption | wp_step))
            exact fin _ _ _ hS3 hL hk3
          | _ => exact hr2.elim
    | _ => exact hr.elim
set_option maxHeartbeats 3200000 in
theorem set_of_tuple {l : Addr} {its : Array Value} {ys : List Str} {Q : Value → Shared → Prop} (hA : A.handled = none) (hl : s.heap.IsTuple l its) (hi : StrsAre its.toList ys) (hz : ys.length + 1 < scanBound)
    (fin : ∀ (h' : Heap) (tk : Nat) (L : List Str), SetS P w h' s.heap.objs.size L → (∀ x, x ∈ L ↔ x ∈ ys) → (∀ b o, b < s.heap.objs.size → s.heap.get? b = some o → h'.get? b = some o) → Q (.ref s.heap.objs.size) { s with heap := h', toks := tk }) :
    wpAny (model P w) A (call (.type "set") [.ref l]) Q E s := by
  obtain ⟨mc, mt, hmro⟩ := PySem.F.called_set.mro
  have isMade := PySem.F.called_set.made
  have isSub := PySem.F.called_set.sub
  refine wpAny_call (codeAny_of_tree ?_)
  show wpAny _ _ (callAny (.type "set") _) _ _ _
  refine wpAny_pure ⟨Code.quiet_builtin _ (by decide +kernel), codeAny_builtin PySem.F.entry_type_call ?_⟩
  rw [Around.under_plain (weight_type_call_type "set" [.ref l] []) rfl]
  have noTy := PySem.F.called_set.notType
  have canC := PySem.F.called_set.canCreate
  have tcl := PySem.F.typeCall_set_1 (.ref l)
  repeat (any_goals (first | assumption | wp_step))
  refine codeAny_mono (code_set_led1 (.ref l) (E := E) (Q₁ := fun ob s1 => ob = .ref s.heap.objs.size ∧ s1 = { s with heap := s.heap.push (nset w) }) ⟨rfl, rfl⟩) fun r s1 hr => ?_
  cases r with
  | error e => exact hr
  | ok fl =>
    cases fl with
    | ret ob =>
      obtain ⟨rfl, rfl⟩ := hr
      have atS : (s.heap.push (nset w)).get? s.heap.objs.size = some (nset w) := Heap.get?_push_size _ rfl
      have isS : Shared.TypeIs { s with heap := s.heap.push (nset w) } (.ref s.heap.objs.size) "set" := ⟨_, atS, rfl⟩
      have iniL := PySem.F.called_set.init.lookup
      have iniB := PySem.F.called_set.init.bind (.ref s.heap.objs.size)
      repeat (any_goals (first | assumption | wp_step))
      refine codeAny_mono (codeAny_call_builtin (R := wants (fun r s2 => r = .none ∧ ∃ h' tk L, s2 = { s with heap := h', toks := tk } ∧ SetS P w h' s.heap.objs.size L ∧ (∀ x, x ∈ L ↔ x ∈ ys) ∧ (∀ b o, b < s.heap.objs.size → s.heap.get? b = some o → h'.get? b = some o)) E)
        PySem.F.called_set.init.plain PySem.F.entry_set_init (check_set_init_1 isS ?_)) fun r2 s2 hr2 => ?_
      · obtain ⟨⟨oc, od, oD, osl⟩, hol, hcl, ne, hdl⟩ := hl
        simp only at hcl hdl
        subst hcl; subst hdl
        have hol2 : (s.heap.push (nset w)).get? l = some { cls := .type "tuple", dict := od, data := .seq its ne, slots := osl } := Heap.get?_push_of_some _ hol
        have sub1 := PySem.F.sub_tuple_set
        have sub2 := PySem.F.sub_tuple_frozenset
        have noD : (Value.type "tuple" == Value.type "dict") = false := by decide
        have isL : (s.heap.push (nset w)).IsTuple l its := ⟨_, hol2, rfl, ne, rfl⟩
        unfold Builtin.«set.__init__» noKeywords Builtin.Frozenset.updateFrom
        generalize hp : pyIter = pI
        wp_walk
        subst hp
        refine wpAny_pyIter_tuple isL ?_
        refine wpAny_bind (wpAny_runValue ?_)
        have ll : l < s.heap.objs.size := Heap.lt_size hol
        have hA3 : A.in1.in1.in1.handled = none := by simp [hA]
        have zN : (s.heap.push (nset w)).objs.size = s.heap.objs.size + 1 := Heap.size_push ..
        have neI : l ≠ (s.heap.push (nset w)).objs.size := by rw [zN]; exact Nat.ne_of_lt (Nat.lt_succ_of_lt ll)
        have nf : s.heap.objs.size ∉ [(s.heap.push (nset w)).objs.size, l] := by
          rw [zN]; simp only [List.mem_cons, List.not_mem_nil, or_false, not_or]
          exact ⟨Nat.ne_of_lt (Nat.lt_succ_self _), Nat.ne_of_gt ll⟩
        have hn : ys.length = its.size := by rw [← StrsAre.len_eq hi, Array.length_toList]
        have vals : ∀ (i : Nat) (v : Value), its[i]? = some v → ∃ x t, ys[i]? = some x ∧ v = .str x t := fun i v hv => strs_get hi i v (by rw [Array.getElem?_toList]; exact hv)
        refine set_loop ((Walks.tuple hA3 _ l neI its).toS) s.heap.objs.size nf ys hn hz vals (its.size - 0) 0 _ [] (by omega) (Nat.zero_le _) ⟨⟨_, Heap.get?_push_size _ rfl, rfl, rfl⟩, (isL.push _)⟩ ?z0 (by simp) (by simp) ?zR
        case z0 => exact setS_fresh (Heap.get?_push_of_some _ atS)
        case zR =>
          intro s3 L hm hS3 hL
          obtain ⟨h3, g3, d3, tk3, os3⟩ := s3
          have eg : g3 = s.gens := hm.gens
          have ed : d3 = s.drawn := hm.drawn
          have eo : os3 = s.os := hm.os
          subst eg; subst ed; subst eo
          show wpAny _ _ _ _ _ _
          refine wpAny_pure ?_
          show wpAny _ _ (ret Value.none) _ _ _
          refine wpAny_pure ⟨rfl, h3, tk3, L, rfl, hS3, hL, fun b o hb e => ?_⟩
          refine hm.heap b o ?_ (Heap.get?_push_of_some _ (Heap.get?_push_of_some _ e))
          simp only [List.mem_cons, List.not_mem_nil, or_false, not_or]
          exact ⟨Nat.ne_of_lt hb, by rw [zN]; exact Nat.ne_of_lt (Nat.lt_succ_of_lt hb)⟩
      · cases r2 with
        | error e => exact hr2
        | ok fl2 =>
          cases fl2 with
          | ret r =>
            obtain ⟨rfl, h3, tk, L, rfl, hS3, hL, hk3⟩ := hr2
            repeat (any_goals (first | assumption | wp_step))
            exact fin _ _ _ hS3 hL hk3
          | _ => exact hr2.elim
    | _ => exact hr.elim
end
end D
namespace D
open PySem L2 PySem.Spec PyProof.Rows
section
variable {P : Program} {w : World} {A : Around} {E : Value → Shared → Prop} {s : Shared} {a : Addr} {L : List Str}
theorem strsAre_all : ∀ (l : List Value), (∀ v ∈ l, ∃ x tk, v = Value.str x tk) → StrsAre l (l.map strOf)
  | [], _ => .nil
  | v :: l, h => by
    obtain ⟨x, tk, rfl⟩ := h v List.mem_cons_self
    exact .cons x tk (strsAre_all l fun u hu => h u (List.mem_cons_of_mem _ hu))
theorem sortedS_set {Q : Value → Shared → Prop} (R : SetS P w s.heap a L) (hA : A.handled = none)
    (fin : ∀ s3 p (out : Array Value) (c : Nat) (ys : List Str), (∀ b o, s.heap.get? b = some o → s3.heap.get? b = some o) → s3.gens = s.gens → s3.os = s.os → s.heap.objs.size ≤ p →
      s3.heap.get? p = some (seqObj "list" out c) → StrsAre out.toList ys → ys.Perm L → sortedS ys = true → Q (.ref p) s3) : wpAny (model P w) A (call (.builtin "sorted") [.ref a]) Q E s := by
  obtain ⟨o, es, ep, t, ho, hex, hd, g, pm, nd, hb, hf, hr, hl⟩ := R
  refine Calls.call_function_entry kind_sorted plain_sorted entry_sorted (args_sorted1 _) ?_
  unfold Builtin.«sorted»
  refine wpAny_bind (m := checkCount "sorted" 1 1 _) (wpAny_pure ?_)
  refine wpAny_bind (collect_set (A := A.in1) hA ⟨o, ho, hex.1, hd⟩ hf hb hr hl fun s1 vs k1 hz g1 o1 pm1 => ?_)
  have hvl : vs.length = es.size := by rw [pm1.length_eq, List.length_map, Array.length_toList]
  have hfit : vs.length ≤ sizeLine := by rw [hvl]; exact fits_of_scanBound hb
  have hS : StrsAre vs (vs.map strOf) := strsAre_all vs fun v hv => by
    obtain ⟨e, he, q⟩ := List.mem_map.mp (pm1.mem_iff.mp hv)
    obtain ⟨x, tk, e1, _⟩ := g e he
    exact ⟨x, tk, by rw [← q]; exact e1⟩
  have pk : (vs.map strOf).Perm L := by
    have q := pm1.map strOf
    rw [List.map_map] at q
    have e : es.toList.map (strOf ∘ fun x => x.2) = es.toList.map txtOf := List.map_congr_left fun e he => by
      obtain ⟨x, tk, e1, _⟩ := g e he
      show strOf e.2 = txtOf e
      unfold txtOf
      rw [e1]
      rfl
    rw [e] at q
    exact q.trans pm
  refine wpAny_bind (wpAny_newList ?_ hfit)
  have hoL : (s1.heap.push (seqObj "list" vs.toArray 0)).get? s1.heap.objs.size = some (seqObj "list" vs.toArray 0) := Heap.get?_push_size _ rfl
  refine wpAny_bind (wpAny_holding (wpAny_call_entry slot_list_sort ⟨_, hoL, rfl⟩ entry_list_sort (list_sort_treeKSt strKind_oneLt hoL hS.keysOf (fun v1 v2 rest e => keyKind_strs (by rw [← e]; exact hS)) hfit fun st2 hp hso _ => ⟨_, rfl, ?_⟩) (args_list_sort _)))
  obtain ⟨ys, e1, e2, e3⟩ := sorted_out_str hS hp hso
  obtain ⟨c, hc⟩ := sortedHeap_at (vs := vs) (out := (arrOf st2).map (·.2)) hoL
  refine wpAny_pure ⟨_, rfl, fin _ s1.heap.objs.size _ c ys (fun b u e => ?_) g1 o1 hz hc e1 (e2.trans pk) e3⟩
  have q := k1 b u e
  have hlt := Heap.lt_size q
  show (sortedHeap (s1.heap.push (seqObj "list" vs.toArray 0)) s1.heap.objs.size vs _).get? b = some u
  rw [sortedHeap_old (Nat.ne_of_lt hlt) (by rw [Heap.size_push]; exact Nat.lt_succ_of_lt hlt)]
  exact Heap.get?_push_of_some _ q
end
/-! ### as heap data -/
def SetSO (P : Program) (w : World) (a : Addr) (L : List Str) : HO := .ext fun h => SetS P w h a L
section
variable {X : Cx}
theorem setSO_new {P : Program} {w : World} {H : Hp} {h : Heap} {a : Addr} {L : List Str} (R : SetS P w h a L) : ObjOk P w H h a (SetSO P w a L) := by
  have ⟨o, _, _, _, ho, _⟩ := R
  exact ⟨R, ⟨o, ho⟩, fun h1 h2 q k => SetS.at q k⟩
theorem setSO_get {pins : List (Addr × Obj)} {sg : L2.St} {H : Hp} {s : Shared} {a : Addr} {L : List Str} (I : Inv X pins sg H s) (ha : H a = some (SetSO X.prog X.w a L)) : SetS X.prog X.w s.heap a L := (I.hok a _ ha).1
theorem strs_of : ∀ {ys : List Str} {us : List Value}, Vals (ys.map V.str) us → StrsAre us ys
  | [], _, .nil => .nil
  | y :: ys, _, .cons r rr => by
    obtain ⟨t, rfl⟩ := r
    exact .cons y t (strs_of rr)
theorem vals_strs : ∀ {us : List Value} {ys : List Str}, StrsAre us ys → Vals (ys.map V.str) us
  | _, _, .nil => .nil
  | _, _, .cons x t r => .cons ⟨t, rfl⟩ (vals_strs r)
def rSetS (K : PySem.W.Frag) (P : Program) (w : World) : List V → Hp → VK → Prop := fun vs H Q => ∃ (l : Addr) (ys : List Str), vs = [.ref l] ∧ (SqL K H l (ys.map V.str) ∨ SqT K H l (ys.map V.str)) ∧ ys.length + 1 < scanBound ∧
  ∀ p L, H p = none → L.Nodup → (∀ x, x ∈ L ↔ x ∈ ys) → Q (.ref p) (upd H p (SetSO P w p L))
theorem SetS.nodup {P : Program} {w : World} {h : Heap} {a : Addr} {L : List Str} (R : SetS P w h a L) : L.Nodup := by
  obtain ⟨_, _, _, _, _, _, _, _, _, nd, _⟩ := R
  exact nd
theorem cr_setS (hc : X.calm = true) : CallR X (.type "set") (rSetS X.K X.prog X.w) := by
  intro pins s sg H vs us Q I r h
  obtain ⟨l, ys, rfl, hq, hz, q⟩ := h
  rw [Vals.ref1 r]
  have fin : ∀ (h' : Heap) (tk : Nat) (L : List Str), SetS X.prog X.w h' s.heap.objs.size L → (∀ x, x ∈ L ↔ x ∈ ys) → (∀ b o, b < s.heap.objs.size → s.heap.get? b = some o → h'.get? b = some o) → EP X pins sg Q (.ref s.heap.objs.size) { s with heap := h', toks := tk } := fun h' tk L R hL hk =>
    ⟨.ref _, _, I.laid (t' := tk) (fun b u e => hk b u (Heap.lt_size e) e) (Nat.le_refl _) (setSO_new R), rfl, q _ L (I.hok.fresh (Nat.le_refl _)) R.nodup hL⟩
  rcases hq with hq | hq
  · obtain ⟨its, rv, p, _⟩ := I.list hq
    exact set_of_list (I.ok.hd hc) p.isList (strs_of rv) hz fin
  · obtain ⟨its, rv, p, _⟩ := I.tuple hq
    exact set_of_tuple (I.ok.hd hc) (show s.heap.IsTuple l its.toArray from p) (strs_of rv) hz fin
def rSortS (P : Program) (w : World) : List V → Hp → VK → Prop := fun vs H Q => ∃ (a : Addr) (L : List Str), vs = [.ref a] ∧ H a = some (SetSO P w a L) ∧ L.length ≤ sizeLine ∧
  ∀ p (ys : List Str), H p = none → ys.Perm L → sortedS ys = true → Q (.ref p) (upd H p (.lst (ys.map V.str)))
theorem cr_sortS (hc : X.calm = true) : CallR X (.builtin "sorted") (rSortS X.prog X.w) := by
  intro pins s sg H vs us Q I r h
  obtain ⟨a, L, rfl, ha, hz, q⟩ := h
  rw [Vals.ref1 r]
  refine sortedS_set (setSO_get I ha) (I.ok.hd hc) fun s3 p out c ys k g o hp hg hi pm hs => ?_
  have hlen : (ys.map V.str).length ≤ sizeLine := by rw [List.length_map, pm.length_eq]; exact hz
  have hn : H p = none := I.hok.fresh hp
  have J : Inv X pins sg (upd H p (.lst (ys.map V.str))) { s with heap := s3.heap, gens := s3.gens, drawn := s3.drawn, toks := s3.toks } :=
    I.call (ch := []) (Un.laid k hp hn) (I.hok.laid k hp ⟨hlen, out.toList, c, vals_strs hi, hg⟩) (by rw [g]; exact I.bare) (fun _ z => nomatch z)
  have e : s3 = { s with heap := s3.heap, gens := s3.gens, drawn := s3.drawn, toks := s3.toks } := by
    cases s3
    cases s
    cases o
    rfl
  rw [e]
  exact ⟨.ref p, _, J, rfl, q p ys hn pm hs⟩
def rLenS (P : Program) (w : World) : List V → Hp → VK → Prop := fun vs H Q => ∃ (a : Addr) (L : List Str), vs = [.ref a] ∧ H a = some (SetSO P w a L) ∧ Q (.int L.length) H
theorem cr_lenS : CallR X (.builtin "len") (rLenS X.prog X.w) := by
  intro pins s sg H vs us Q I r h
  obtain ⟨a, L, rfl, ha, q⟩ := h
  rw [Vals.ref1 r]
  obtain ⟨o, es, ep, t, ho, hex, hd, g, pm, nd, hb, hf, _⟩ := setSO_get I ha
  have hl : es.size = L.length := by rw [← pm.length_eq, List.length_map, Array.length_toList]
  refine call_len_set ho hex hd hf (by unfold scanBound at hb; omega) ?_
  rw [hl]
  exact ⟨.int L.length, H, I.tok _, ⟨_, rfl⟩, q⟩
/-- sorted(xs), xs a list of texts -/
def rSortL (K : PySem.W.Frag) : List V → Hp → VK → Prop := fun vs H Q => ∃ (a : Addr) (L : List Str), vs = [.ref a] ∧ SqL K H a (L.map V.str) ∧
  ∀ p (ys : List Str), H p = none → ys.Perm L → sortedS ys = true → Q (.ref p) (upd H p (.lst (ys.map V.str)))
theorem cr_sortL : CallR X (.builtin "sorted") (rSortL X.K) := by
  intro pins s sg H vs us Q I r h
  obtain ⟨a, L, rfl, ha, q⟩ := h
  rw [Vals.ref1 r]
  obtain ⟨its, rv, p, hz⟩ := I.list ha
  have hS := strs_of rv
  have hl : its.length = L.length := StrsAre.len_eq hS
  have hz2 : L.length ≤ sizeLine := by rw [List.length_map] at hz; exact hz
  refine sorted_strsAny (vs := its) p.isList hS (by rw [hl]; exact hz2) fun out ys e1 e2 e3 => ?_
  obtain ⟨c, hc⟩ := sortedAll_at s.heap its out
  have hn : H (s.heap.objs.size + 1) = none := I.hok.fresh (Nat.le_succ _)
  refine ⟨.ref _, _, I.laid (t' := s.toks) (o := .lst (ys.map V.str)) (fun b u e => sortedAll_old e) (Nat.le_succ _) ⟨by rw [List.length_map, e2.length_eq]; exact hz2, out.toList, c, vals_strs e1, hc⟩, rfl, q _ ys hn e2 e3⟩
end
end D
namespace D
open PySem L2
/-! ### texts in order -/
theorem ltCps_eq : ∀ a b : List Nat, PySem.Spec.ltCps a b = decide (a < b)
  | [], [] => by simp [PySem.Spec.ltCps]
  | [], _ :: _ => by simp [PySem.Spec.ltCps]
  | _ :: _, [] => by simp [PySem.Spec.ltCps]
  | a :: r, b :: t => by
    unfold PySem.Spec.ltCps
    rw [ltCps_eq r t]
    simp only [List.cons_lt_cons_iff, Bool.decide_or, Bool.decide_and]
    rfl
def leS (x y : Str) : Prop := x.cps.toList ≤ y.cps.toList
theorem leS_iff (x y : Str) : leS x y ↔ ltC y x = false := by
  unfold leS ltC
  rw [decide_eq_false_iff_not, List.not_lt]
theorem leS_anti {x y : Str} (h1 : leS x y) (h2 : leS y x) : x = y := by
  have := List.le_antisymm h1 h2
  cases x with | mk a => cases y with | mk b =>
    congr 1
    exact Array.toList_inj.mp this
theorem leS_total (x y : Str) : leS x y ∨ leS y x := List.le_total _ _
theorem leS_trans {x y z : Str} (h1 : leS x y) (h2 : leS y z) : leS x z := List.le_trans h1 h2
theorem leS_refl (x : Str) : leS x x := List.le_refl _
def insS (x : Str) : List Str → List Str
  | [] => [x]
  | y :: r => if ltC y x then y :: insS x r else x :: y :: r
def sortS : List Str → List Str
  | [] => []
  | x :: r => insS x (sortS r)
def dedS : List Str → List Str
  | [] => []
  | x :: r => plusS (dedS r) x
theorem ins_perm (x : Str) : ∀ l, (insS x l).Perm (x :: l)
  | [] => .refl _
  | y :: r => by
    unfold insS
    split
    · exact ((ins_perm x r).cons y).trans (.swap x y r)
    · exact .refl _
theorem sort_perm : ∀ l, (sortS l).Perm l
  | [] => .refl _
  | x :: r => (ins_perm x _).trans ((sort_perm r).cons x)
theorem ins_sorted (x : Str) : ∀ l, l.Pairwise leS → (insS x l).Pairwise leS
  | [], _ => by unfold insS; exact List.pairwise_singleton _ _
  | y :: r, h => by
    obtain ⟨h1, h2⟩ := List.pairwise_cons.mp h
    unfold insS
    split
    · rename_i hlt
      refine List.pairwise_cons.mpr ⟨fun z hz => ?_, ins_sorted x r h2⟩
      rcases List.mem_cons.mp ((ins_perm x r).mem_iff.mp hz) with e | e
      · subst e
        rcases leS_total y z with q | q
        · exact q
        · rw [leS_iff, hlt] at q; cases q
      · exact h1 z e
    · rename_i hlt
      have hxy : leS x y := (leS_iff x y).mpr (by simpa using hlt)
      refine List.pairwise_cons.mpr ⟨fun z hz => ?_, h⟩
      rcases List.mem_cons.mp hz with e | e
      · subst e; exact hxy
      · exact leS_trans hxy (h1 z e)
theorem sort_sorted : ∀ l, (sortS l).Pairwise leS
  | [] => List.Pairwise.nil
  | x :: r => ins_sorted x _ (sort_sorted r)
theorem rising_pw : ∀ (l : List Str) (x : Str), PyProof.Rows.risingS x l = true → (x :: l).Pairwise leS
  | [], x, _ => List.pairwise_singleton _ _
  | y :: r, x, h => by
    unfold PyProof.Rows.risingS at h
    rw [Bool.and_eq_true, ltCps_eq] at h
    have ih := rising_pw r y h.2
    have hxy : leS x y := (leS_iff x y).mpr (by have := h.1; unfold ltC; simpa using this)
    refine List.pairwise_cons.mpr ⟨fun z hz => ?_, ih⟩
    rcases List.mem_cons.mp hz with e | e
    · subst e; exact hxy
    · exact leS_trans hxy ((List.pairwise_cons.mp ih).1 z e)
theorem sortedS_pw : ∀ (l : List Str), PyProof.Rows.sortedS l = true → l.Pairwise leS
  | [], _ => List.Pairwise.nil
  | x :: r, h => rising_pw r x h
theorem sort_unique {ys L : List Str} (h1 : PyProof.Rows.sortedS ys = true) (h2 : ys.Perm L) : ys = sortS L :=
  List.Perm.eq_of_pairwise (fun _ _ _ _ p q => leS_anti p q) (sortedS_pw ys h1) (sort_sorted L) (h2.trans (sort_perm L).symm)
theorem sort_congr {L L' : List Str} (h : L.Perm L') : sortS L = sortS L' :=
  List.Perm.eq_of_pairwise (fun _ _ _ _ p q => leS_anti p q) (sort_sorted L) (sort_sorted L') ((sort_perm L).trans (h.trans (sort_perm L').symm))
theorem ded_mem : ∀ (l : List Str) (x : Str), x ∈ dedS l ↔ x ∈ l
  | [], x => by simp [dedS]
  | y :: r, x => by
    unfold dedS
    rw [plus_mem, ded_mem r x, List.mem_cons]
    exact Or.comm
theorem ded_nodup : ∀ l : List Str, (dedS l).Nodup
  | [] => List.nodup_nil
  | y :: r => by
    unfold dedS plusS
    split
    · exact ded_nodup r
    · rename_i h
      exact List.nodup_cons.mpr ⟨h, ded_nodup r⟩
theorem ded_perm {L ys : List Str} (nd : L.Nodup) (h : ∀ x, x ∈ L ↔ x ∈ ys) : L.Perm (dedS ys) := (List.perm_ext_iff_of_nodup nd (ded_nodup ys)).mpr fun x => (h x).trans (ded_mem ys x).symm
theorem ded_len : ∀ l : List Str, (dedS l).length ≤ l.length
  | [] => Nat.le_refl _
  | y :: r => by
    unfold dedS
    exact Nat.le_trans (plus_len _ _) (Nat.succ_le_succ (ded_len r))
/-! ### sorted(set(x)), len(set(x)), sorted(x) -/
def txts : U → Option (List Str)
  | .lst us => strsU us
  | .tup us => strsU us
  | _ => none
def sortSet1 (u : U) : Option (List U) := (txts u).bind fun ys => if ys.length + 1 < 4096 then some ((sortS (dedS ys)).map U.str) else none
def lenSet1 (u : U) : Option U := (txts u).bind fun ys => if ys.length + 1 < 4096 then some (.int (dedS ys).length) else none
def sort1 : U → Option (List U)
  | .lst us => (strsU us).bind fun ys => some ((sortS ys).map U.str)
  | _ => none
section
variable {X : Cx} {xs : XS} {wx : WX} {pos : Pos}
theorem txts_rep {K : PySem.W.Frag} {W : Addr → Prop} {io : List Addr} {H : Hp} {u : U} {v : V} {ys : List Str} (r : Rep K W io H u v) (h : txts u = some ys) : ∃ l, v = .ref l ∧ (SqL K H l (ys.map V.str) ∨ SqT K H l (ys.map V.str)) := by
  unfold txts at h
  split at h
  · rename_i us
    rw [strs_eq h] at r
    obtain ⟨a, vs, rfl, l, rs⟩ := r.lst'
    rw [Reps.ofStrs rs] at l
    exact ⟨a, rfl, .inl l.sq⟩
  · rename_i us
    rw [strs_eq h] at r
    obtain ⟨a, vs, rfl, l, rs⟩ := r.tup'
    rw [Reps.ofStrs rs] at l
    exact ⟨a, rfl, .inr l.sq⟩
  · cases h
theorem l_sortSet {e : Expr} {p p2 pos2 : Pos} {f : DE} (hc : X.calm = true) (hg : Gl X "sorted") (hm : X.mg "sorted" = none) (hg2 : Gl X "set") (hm2 : X.mg "set" = none) (he : PE X e (tD X.K xs wx f)) (hs : starEach [e] X.env = (false, eval e X.env) :: starEach [] X.env := by rfl)
    (hs2 : starEach [.Call (.Name "set" p2) [e] [] pos2] X.env = (false, eval (.Call (.Name "set" p2) [e] [] pos2) X.env) :: starEach [] X.env := by rfl) :
    PE X (.Call (.Name "sorted" p) [.Call (.Name "set" p2) [e] [] pos2] [] pos) (tDL X.K xs wx (itE sortSet1 f)) := by
  have hset := pe_callTy (pos := pos2) (p := p2) (cr_setS hc) hg2 hm2 bt_set (pa_cons he pa_nil hs) (by decide) (by decide) hs rfl
  refine pe_imp (pe_callB (pos := pos) (p := p) (cr_sortS hc) hg hm bt_sorted (pa_cons hset pa_nil hs2) (by decide) (by decide) hs2 rfl) fun sg H Q h => ?_
  obtain ⟨G, io, st, env, ok, er, w⟩ := h
  refine ⟨G, io, st, env, ok, er, w.bind.impR fun st1 io1 H1 u ok1 e1 w1 v rv => ?_⟩
  obtain ⟨ws, hu, w2⟩ := w1.pure
  unfold sortSet1 at hu
  rw [Option.bind_eq_some_iff] at hu
  obtain ⟨ys, hy, hu⟩ := hu
  split at hu
  · rename_i hz
    cases hu
    obtain ⟨l, rfl, sq⟩ := txts_rep rv hy
    refine ⟨l, ys, rfl, sq, hz, fun q L hq nd hL => ?_⟩
    have pm := ded_perm nd hL
    refine ⟨q, L, rfl, upd_same, ?_, fun z zs hz2 pm2 hs2 => ?_⟩
    · rw [pm.length_eq]
      have := ded_len ys
      rw [sizeLine_val]; omega
    · have e : zs = sortS (dedS ys) := by rw [sort_unique hs2 pm2, sort_congr pm]
      subst e
      exact w2.hereS ok1 (same_upd hq) _ z (Reps.strs _) hz2
  · cases hu
theorem d_lenSet {e : Expr} {p p2 pos2 : Pos} {f : DE} (hc : X.calm = true) (hg : Gl X "len") (hm : X.mg "len" = none) (hg2 : Gl X "set") (hm2 : X.mg "set" = none) (he : PE X e (tD X.K xs wx f)) (hs : starEach [e] X.env = (false, eval e X.env) :: starEach [] X.env := by rfl)
    (hs2 : starEach [.Call (.Name "set" p2) [e] [] pos2] X.env = (false, eval (.Call (.Name "set" p2) [e] [] pos2) X.env) :: starEach [] X.env := by rfl) :
    PE X (.Call (.Name "len" p) [.Call (.Name "set" p2) [e] [] pos2] [] pos) (tD X.K xs wx (ap1 lenSet1 f)) := by
  have hset := pe_callTy (pos := pos2) (p := p2) (cr_setS hc) hg2 hm2 bt_set (pa_cons he pa_nil hs) (by decide) (by decide) hs rfl
  refine pe_imp (pe_callB (pos := pos) (p := p) cr_lenS hg hm bt_len (pa_cons hset pa_nil hs2) (by decide) (by decide) hs2 rfl) fun sg H Q h => ?_
  obtain ⟨G, io, st, env, ok, er, w⟩ := h
  refine ⟨G, io, st, env, ok, er, w.bind.impR fun st1 io1 H1 u ok1 e1 w1 v rv => ?_⟩
  obtain ⟨r, hu, w2⟩ := w1.pure
  unfold lenSet1 at hu
  rw [Option.bind_eq_some_iff] at hu
  obtain ⟨ys, hy, hu⟩ := hu
  split at hu
  · rename_i hz
    cases hu
    obtain ⟨l, rfl, sq⟩ := txts_rep rv hy
    refine ⟨l, ys, rfl, sq, hz, fun q L hq nd hL => ⟨q, L, rfl, upd_same, ?_⟩⟩
    rw [(ded_perm nd hL).length_eq]
    exact w2.hereS ok1 (same_upd hq) _ (rInt _)
  · cases hu
theorem l_sort {e : Expr} {p : Pos} {f : DE} (hg : Gl X "sorted") (hm : X.mg "sorted" = none) (he : PE X e (tD X.K xs wx f)) (hs : starEach [e] X.env = (false, eval e X.env) :: starEach [] X.env := by rfl) :
    PE X (.Call (.Name "sorted" p) [e] [] pos) (tDL X.K xs wx (itE sort1 f)) := by
  refine pe_imp (pe_callB (pos := pos) (p := p) cr_sortL hg hm bt_sorted (pa_cons he pa_nil hs) (by decide) (by decide) hs rfl) fun sg H Q h => ?_
  obtain ⟨G, io, st, env, ok, er, w⟩ := h
  refine ⟨G, io, st, env, ok, er, w.bind.impR fun st1 io1 H1 u ok1 e1 w1 v rv => ?_⟩
  obtain ⟨ws, hu, w2⟩ := w1.pure
  unfold sort1 at hu
  split at hu
  · rw [Option.bind_eq_some_iff] at hu
    obtain ⟨ys, hy, hu⟩ := hu
    cases hu
    obtain ⟨a, vs, rfl, l, rs⟩ := rv.lst'
    rw [strs_eq hy] at rs
    rw [Reps.ofStrs rs] at l
    refine ⟨a, ys, rfl, l.sq, fun z zs hz pm hso => ?_⟩
    have e : zs = sortS ys := sort_unique hso pm
    subst e
    exact w2.here ok1 _ z (Reps.strs _) hz
  · cases hu
end
end D
namespace D
open PySem L2
/-! ### a, b = x -/
def sUnp (t : Tg) (f : DE) : DS := fun env st => (f env st).out env fun u st1 => match t u with
  | none => .bad
  | some l => .nx (setE env l) st1
section
variable {X : Cx} {xs : XS} {wx : WX} {pos : Pos}
theorem s_unp {tg e : Expr} {f : DE} {t : Tg} (he : PE X e (tD X.K xs wx f)) (hg : PG X tg (gD X.K t)) (hm : (assignEach [tg] X.env).map (·.2) = [assign tg X.env] := by rfl)
    (hs : swapsWithSole [tg] e pos.line X.env = Pure.pure false := by rfl) (hw : swappedStores [tg] e X.env = Pure.pure none := by rfl) : PS X (.Assign [tg] e pos) (tDS X.K xs wx (sUnp t f)) := by
  refine ⟨fun pins s sg H D I h => ?_⟩
  obtain ⟨F, io, st, env, fr, w⟩ := h
  refine wpAny_Assign_stores (thn (he.run pins s sg H (fun v H1 => gD X.K t v sg H1 fun sg2 H2 => D.nx sg2 H2) I ?_) fun v s1 ⟨x, H1, I1, r1, q1⟩ => ?_) hs hw
  · refine ⟨Gs F env sg, io, st, env, fr.ok, fr.er, (WantsS.expr fr w).impR fun st1 io1 H1 u ok1 e1 z v rv => ?_⟩
    obtain ⟨z1, z2⟩ := z
    cases ht : t u with
    | none => rw [ht] at z2; exact z2.elim
    | some l =>
      rw [ht] at z2
      refine ⟨Gs F env sg, io1, u, l, rv, ht, fun vs rvs => ?_⟩
      obtain ⟨f3, e3⟩ := z1.setAll l vs rvs
      exact z2 io1 _ H1 f3 e3
  · rw [hm]
    show wpAny _ _ (assign tg X.env v) _ _ _
    exact thn (hg.run pins s1 sg H1 x v _ I1 r1 q1) fun _ s2 ⟨sg2, H2, I2, q2⟩ => ⟨sg2, H2, I2, q2⟩
end
@[simp] theorem sUnp_ap (t : Tg) (f : DE) (env : Env) (st : Store) : sUnp t f env st = (f env st).out env fun u st1 => match t u with
  | none => .bad
  | some l => .nx (setE env l) st1 := (rfl)
end D
namespace D
open PySem L2
/-! ### names out of a tuple or a list -/
def tgA (is : List Nat) : Tg := fun u => match u with
  | .tup us => if us.length = is.length then some (is.zip us) else none
  | .lst us => if us.length = is.length then some (is.zip us) else none
  | _ => none
section
variable {X : Cx} {xs : XS} {wx : WX} {pos : Pos}
theorem pg_or {tg : Expr} {t1 t2 : TG} (h1 : PG X tg t1) (h2 : PG X tg t2) : PG X tg (fun v sg H Q => t1 v sg H Q ∨ t2 v sg H Q) :=
  ⟨fun pins s sg H v u Q I r h => h.elim (fun z => h1.run pins s sg H v u Q I r z) fun z => h2.run pins s sg H v u Q I r z⟩
theorem g_any {es : List Expr} {k : Nat} {is : List Nat} (hc : X.calm = true) (hN : X.N.Nodup) (h : GNames X es is) : PG X (.Tuple es k pos) (gD X.K (tgA is)) := by
  obtain ⟨h1, h2, h3⟩ := GNames.pgs hN h
  refine pg_imp (pg_or (pg_tup hc h1 h2 h3) (pg_lst hc h1 h2 h3)) fun v sg H Q q => ?_
  obtain ⟨G, io, u, l, r, e, q⟩ := q
  cases u with
  | tup us =>
    simp only [tgA] at e
    split at e
    · rename_i hl
      cases e
      obtain ⟨a, vs, rfl, lt, rs⟩ := r.tup'
      have hv : vs.length = is.length := by rw [← rs.length]; exact hl
      rw [zip_fst _ _ hl, zip_snd _ _ hl] at q
      exact .inl ⟨a, vs, rfl, lt.sq, hv, gSet_of is vs sg hv (q vs rs)⟩
    · cases e
  | lst us =>
    simp only [tgA] at e
    split at e
    · rename_i hl
      cases e
      obtain ⟨a, vs, rfl, lt, rs⟩ := r.lst'
      have hv : vs.length = is.length := by rw [← rs.length]; exact hl
      rw [zip_fst _ _ hl, zip_snd _ _ hl] at q
      exact .inr ⟨a, vs, rfl, lt.sq, hv, gSet_of is vs sg hv (q vs rs)⟩
    · cases e
  | _ => cases e
end
/-! ### what the operators do, as rewriting -/
@[simp] theorem add_int (i j : Int) : add2 (.int i) (.int j) = some (.int (i + j)) := (rfl)
@[simp] theorem sub_int (i j : Int) : sub2 (.int i) (.int j) = some (.int (i - j)) := (rfl)
@[simp] theorem lt_int (i j : Int) : lt2 (.int i) (.int j) = some (.bl (decide (i < j))) := (rfl)
@[simp] theorem le_int (i j : Int) : le2 (.int i) (.int j) = some (.bl (decide (i ≤ j))) := (rfl)
@[simp] theorem gt_int (i j : Int) : gt2 (.int i) (.int j) = some (.bl (decide (j < i))) := (rfl)
@[simp] theorem ge_int (i j : Int) : ge2 (.int i) (.int j) = some (.bl (decide (j ≤ i))) := (rfl)
@[simp] theorem eq_int (i j : Int) : eq2 (.int i) (.int j) = some (.bl (decide (i = j))) := (rfl)
@[simp] theorem ne_int (i j : Int) : ne2 (.int i) (.int j) = some (.bl (!decide (i = j))) := (rfl)
@[simp] theorem eq_str (i j : Str) : eq2 (.str i) (.str j) = some (.bl (decide (i = j))) := (rfl)
@[simp] theorem ne_str (i j : Str) : ne2 (.str i) (.str j) = some (.bl (!decide (i = j))) := (rfl)
@[simp] theorem eq_bl (i j : Bool) : eq2 (.bl i) (.bl j) = some (.bl (decide (i = j))) := (rfl)
@[simp] theorem ne_bl (i j : Bool) : ne2 (.bl i) (.bl j) = some (.bl (!decide (i = j))) := (rfl)
@[simp] theorem is_bl (i j : Bool) : is2 (.bl i) (.bl j) = some (.bl (decide (i = j))) := (rfl)
@[simp] theorem isnot_bl (i j : Bool) : isnot2 (.bl i) (.bl j) = some (.bl (!decide (i = j))) := (rfl)
@[simp] theorem lt_str (i j : Str) : lt2 (.str i) (.str j) = some (.bl (ltC i j)) := (rfl)
@[simp] theorem le_str (i j : Str) : le2 (.str i) (.str j) = some (.bl (!ltC j i)) := (rfl)
@[simp] theorem neg_int (i : Int) : neg1 (.int i) = some (.int (-i)) := (rfl)
@[simp] theorem len_lst (us : List U) : lenN [.lst us] = some (.int us.length) := (rfl)
@[simp] theorem len_tup (us : List U) : lenN [.tup us] = some (.int us.length) := (rfl)
@[simp] theorem len_scr (us : List Int) : lenN [.scr us] = some (.int us.length) := (rfl)
@[simp] theorem tup_lst (us : List U) : tupN [.lst us] = some (.tup us) := (rfl)
@[simp] theorem tup_tup (us : List U) : tupN [.tup us] = some (.tup us) := (rfl)
@[simp] theorem items_lst (us : List U) : items (.lst us) = some us := (rfl)
@[simp] theorem items_tup (us : List U) : items (.tup us) = some us := (rfl)
@[simp] theorem max_int (i j : Int) : maxN [.int i, .int j] = some (.int (if j > i then j else i)) := (rfl)
@[simp] theorem min_int (i j : Int) : minN [.int i, .int j] = some (.int (if j < i then j else i)) := (rfl)
@[simp] theorem abs_int (i : Int) : absN [.int i] = some (.int (if i < 0 then -i else i)) := (rfl)
theorem mod_pos {i j : Int} (h : 0 < j) : mod2 (.int i) (.int j) = some (.int (i % j)) := by simp [mod2, h]
theorem fdiv_pos {i j : Int} (h : 0 < j) (h2 : j < 1073741824) : fdiv2 (.int i) (.int j) = some (.int (i / j)) := by simp [fdiv2, h, h2]
end D
namespace D
open PySem L2
/-! ### tables of the module: written dicts with text keys, of written data -/
mutual
def kRep (K : PySem.W.Frag) : U → Value → Bool
  | .non, .none => true
  | .bl b, .bool c => b == c
  | .int i, .int j _ => decide (i = j)
  | .str x, .str y _ => decide (x = y)
  | .tup us, .ref a => (match K.lookup a with
      | some o => (match o.cls, o.data with
        | .type n, .seq its _ => n == "tuple" && decide (its.size ≤ sizeLine) && kReps K us its.toList
        | _, _ => false)
      | none => false)
  | _, _ => false
def kReps (K : PySem.W.Frag) : List U → List Value → Bool
  | [], [] => true
  | u :: us, v :: vs => kRep K u v && kReps K us vs
  | _, _ => false
end
mutual
theorem kRep_ok {K : PySem.W.Frag} : ∀ (u : U) (v : Value), kRep K u v = true → ∃ x : V, RelV x v ∧ ∀ W io H, Rep K W io H u x
  | .non, v, h => by
    unfold kRep at h
    cases v with
    | none => exact ⟨.non, rfl, fun _ _ _ => rNon⟩
    | _ => cases h
  | .bl b, v, h => by
    unfold kRep at h
    cases v <;> first | cases h | skip
    rename_i c
    have e : b = c := by simpa using h
    exact ⟨.bl b, by rw [e]; rfl, fun _ _ _ => rBl _⟩
  | .int i, v, h => by
    unfold kRep at h
    cases v <;> first | cases h | skip
    exact ⟨.int i, ⟨_, by rw [of_decide_eq_true h]⟩, fun _ _ _ => rInt _⟩
  | .str i, v, h => by
    unfold kRep at h
    cases v <;> first | cases h | skip
    exact ⟨.str i, ⟨_, by rw [of_decide_eq_true h]⟩, fun _ _ _ => rStr _⟩
  | .tup us, v, h => by
    unfold kRep at h
    cases v with
    | ref a =>
      dsimp only at h
      split at h
      · rename_i o ho
        split at h
        · rename_i n its k hc hd
          simp only [Bool.and_eq_true, decide_eq_true_eq] at h
          obtain ⟨⟨h1, h2⟩, h3⟩ := h
          obtain ⟨xs, hv, hr⟩ := kReps_ok us its.toList h3
          have hn : n = "tuple" := eq_of_beq h1
          exact ⟨.ref a, rfl, fun W io H => rTup (.inr ⟨o, its, k, ho, by rw [hc, hn], hd, h2, hv⟩) (hr W io H)⟩
        · cases h
      · cases h
    | _ => cases h
  | .lst _, v, h => by unfold kRep at h; cases v <;> cases h
  | .dct _ _, v, h => by unfold kRep at h; cases v <;> cases h
  | .ref _, v, h => by unfold kRep at h; cases v <;> cases h
  | .ty _, v, h => by unfold kRep at h; cases v <;> cases h
  | .scr _, v, h => by unfold kRep at h; cases v <;> cases h
theorem kReps_ok {K : PySem.W.Frag} : ∀ (us : List U) (vs : List Value), kReps K us vs = true → ∃ xs : List V, Vals xs vs ∧ ∀ W io H, Reps K W io H us xs
  | [], [], _ => ⟨[], .nil, fun _ _ _ => .nil⟩
  | [], _ :: _, h => by unfold kReps at h; cases h
  | _ :: _, [], h => by unfold kReps at h; cases h
  | u :: us, v :: vs, h => by
    unfold kReps at h
    simp only [Bool.and_eq_true] at h
    obtain ⟨x, r, a⟩ := kRep_ok u v h.1
    obtain ⟨xs, rs, as⟩ := kReps_ok us vs h.2
    exact ⟨x :: xs, .cons r rs, fun W io H => .cons (a W io H) (as W io H)⟩
end
def isKey (x : Str) (v : Value) : Bool := match v with
  | .str y _ => decide (x = y)
  | _ => false
def kEnts (K : PySem.W.Frag) : List (Str × U) → List DictEntry → Bool
  | [], [] => true
  | p :: r, e :: s => isKey p.1 e.key && kRep K p.2 e.val && kEnts K r s
  | _, _ => false
def tabAt (tab : List (Str × U)) (x : Str) : Option U := (tab.find? fun p => decide (p.1 = x)).map (·.2)
theorem ents_find {K : PySem.W.Frag} {z : Str} : ∀ (tab : List (Str × U)) (es : List DictEntry), kEnts K tab es = true →
    es.any (·.refKey) = false ∧ (match tabAt tab z with
      | some u => ∃ e, es.find? (·.key.isStr z) = some e ∧ kRep K u e.val = true
      | none => es.find? (·.key.isStr z) = none)
  | [], [], _ => ⟨rfl, rfl⟩
  | [], _ :: _, h => by unfold kEnts at h; cases h
  | _ :: _, [], h => by unfold kEnts at h; cases h
  | p :: r, e :: s, h => by
    unfold kEnts at h
    simp only [Bool.and_eq_true] at h
    obtain ⟨⟨h1, h2⟩, h3⟩ := h
    obtain ⟨i1, i2⟩ := ents_find (z := z) r s h3
    unfold isKey at h1
    split at h1
    · rename_i y t hy
      have hp : p.1 = y := of_decide_eq_true h1
      have hk : e.refKey = false := by unfold DictEntry.refKey; rw [hy]
      refine ⟨by simp [hk]; simpa using i1, ?_⟩
      unfold tabAt at i2 ⊢
      have hs : e.key.isStr z = decide (p.1 = z) := by
        rw [hy, hp]
        show (y == z) = _
        by_cases q : y = z
        · subst q; simp
        · simp [q]
      by_cases hz : p.1 = z
      · rw [List.find?_cons_of_pos (by simpa using hz)]
        exact ⟨e, by rw [List.find?_cons_of_pos (by rw [hs]; simpa using hz)], h2⟩
      · rw [List.find?_cons_of_neg (by simpa using hz)]
        rw [List.find?_cons_of_neg (by rw [hs]; simpa using hz)]
        exact i2
    · cases h1
def KTab (K : PySem.W.Frag) (w : World) (mg : Str → Option Value) (x : Str) (tab : List (Str × U)) : Prop :=
  ∃ d es n, mg x = some (.ref d) ∧ KDict K w d es n ∧ kEnts K tab es.toList = true
theorem kd_ns {K : PySem.W.Frag} {w : World} {d : Addr} {es : Array DictEntry} {n : Nat} {tab : List (Str × U)} (D : KDict K w d es n) (h : kEnts K tab es.toList = true) (z : Str) :
    match tabAt tab z with
      | some u => ∃ v x, PySem.W.nsIn K d z = some (some v) ∧ RelV x v ∧ ∀ W io H, Rep K W io H u x
      | none => PySem.W.nsIn K d z = some none := by
  obtain ⟨h1, h2⟩ := ents_find (z := z) tab es.toList h
  unfold PySem.W.nsIn
  rw [D.at_]
  dsimp only
  cases q : tabAt tab z with
  | some u =>
    rw [q] at h2
    obtain ⟨e, e1, e2⟩ := h2
    obtain ⟨x, r, a⟩ := kRep_ok u e.val e2
    exact ⟨e.val, x, by rw [e1], r, a⟩
  | none =>
    rw [q] at h2
    show _ = some none
    dsimp only at h2
    rw [h2, if_neg (by rw [h1]; exact Bool.false_ne_true)]
def tabHas (tab : List (Str × U)) : U → Option U
  | .str x => some (.bl (tabAt tab x).isSome)
  | _ => none
def tabNot (tab : List (Str × U)) : U → Option U
  | .str x => some (.bl (!(tabAt tab x).isSome))
  | _ => none
def tabGet (tab : List (Str × U)) : U → Option U
  | .str x => tabAt tab x
  | _ => none
section
variable {X : Cx} {xs : XS} {wx : WX} {pos p : Pos} {x : Str} {tab : List (Str × U)} {a : Expr} {f : DE}
theorem ap1_read {g : U → Option U} {sg : L2.St} {H : Hp} {Q : VK} (h : tD X.K xs wx (ap1 g f) sg H Q) : tD X.K xs wx f sg H (fun v H1 => P1 X.K g v H1 Q) := by
  obtain ⟨G, io, st, env, ok, er, w⟩ := h
  refine ⟨G, io, st, env, ok, er, w.bind.impR fun st1 io1 H1 u ok1 e1 w1 v rv => ?_⟩
  obtain ⟨r, hr, w2⟩ := w1.pure
  exact ⟨G, io1, st1, u, r, ok1, rv, hr, fun v' H' s q => w2.hereS ok1 s v' q⟩
theorem tD_imp {sg : L2.St} {H : Hp} {Q Q' : VK} (h : tD X.K xs wx f sg H Q) (i : ∀ v H1, Q v H1 → Q' v H1) : tD X.K xs wx f sg H Q' := by
  obtain ⟨G, io, st, env, ok, er, w⟩ := h
  exact ⟨G, io, st, env, ok, er, w.impR fun st1 io1 H1 u ok1 e1 w1 v rv => i v H1 (w1 v rv)⟩
theorem in_read {d : Addr} {es : Array DictEntry} {n : Nat} {v : V} {H : Hp} {Q : VK} (D : KDict X.K X.w d es n) (hk : kEnts X.K tab es.toList = true) (h : P1 X.K (tabHas tab) v H Q) :
    ∃ (z : Str) (r : Option Value), v = .str z ∧ (V.ref d) = .ref d ∧ PySem.W.nsIn X.K d z = some r ∧ Q (.bl r.isSome) H := by
  obtain ⟨G, io, st, u1, u, ok, rv, hu, fin⟩ := h
  unfold tabHas at hu
  split at hu
  · rename_i z
    cases hu
    have q := kd_ns D hk z
    have f := fin (.bl (tabAt tab z).isSome) H (fun _ _ e => e) (rBl _)
    cases e : tabAt tab z with
    | some u =>
      rw [e] at q f
      obtain ⟨v', x', q1, _, _⟩ := q
      exact ⟨z, some v', rv.str', rfl, q1, f⟩
    | none =>
      rw [e] at q f
      exact ⟨z, none, rv.str', rfl, q, f⟩
  · cases hu
theorem nin_read {d : Addr} {es : Array DictEntry} {n : Nat} {v : V} {H : Hp} {Q : VK} (D : KDict X.K X.w d es n) (hk : kEnts X.K tab es.toList = true) (h : P1 X.K (tabNot tab) v H Q) :
    ∃ (z : Str) (r : Option Value), v = .str z ∧ (V.ref d) = .ref d ∧ PySem.W.nsIn X.K d z = some r ∧ Q (.bl (!r.isSome)) H := by
  obtain ⟨G, io, st, u1, u, ok, rv, hu, fin⟩ := h
  unfold tabNot at hu
  split at hu
  · rename_i z
    cases hu
    have q := kd_ns D hk z
    have f := fin (.bl (!(tabAt tab z).isSome)) H (fun _ _ e => e) (rBl _)
    cases e : tabAt tab z with
    | some u =>
      rw [e] at q f
      obtain ⟨v', x', q1, _, _⟩ := q
      exact ⟨z, some v', rv.str', rfl, q1, f⟩
    | none =>
      rw [e] at q f
      exact ⟨z, none, rv.str', rfl, q, f⟩
  · cases hu
theorem d_tabIn (T : KTab X.K X.w X.mg x tab) (hg : Gl X x) (ha : PE X a (tD X.K xs wx f)) (hd : (x == ("__debug__" : Str)) = false := by decide) : PE X (.Compare a [.In] [.Name x p] pos) (tD X.K xs wx (ap1 (tabHas tab) f)) := by
  obtain ⟨d, es, n, hm, D, hk⟩ := T
  exact pe_imp (pe_cmpR (op_in_kd D) ha (pe_glob (v := .ref d) hg hm rfl hd) (by first | exact nomark _ | rfl)) fun sg H Q h => tD_imp (ap1_read h) fun v H1 q => in_read D hk q
theorem d_tabNin (T : KTab X.K X.w X.mg x tab) (hg : Gl X x) (ha : PE X a (tD X.K xs wx f)) (hd : (x == ("__debug__" : Str)) = false := by decide) : PE X (.Compare a [.NotIn] [.Name x p] pos) (tD X.K xs wx (ap1 (tabNot tab) f)) := by
  obtain ⟨d, es, n, hm, D, hk⟩ := T
  exact pe_imp (pe_cmpR (op_notIn_kd D) ha (pe_glob (v := .ref d) hg hm rfl hd) (by first | exact nomark _ | rfl)) fun sg H Q h => tD_imp (ap1_read h) fun v H1 q => nin_read D hk q
theorem t_tabIn (T : KTab X.K X.w X.mg x tab) (hg : Gl X x) (ha : PE X a (tD X.K xs wx f)) (hd : (x == ("__debug__" : Str)) = false := by decide) : PT X (.Compare a [.In] [.Name x p] pos) (tDT X.K xs wx (tst (ap1 (tabHas tab) f))) := by
  obtain ⟨d, es, n, hm, D, hk⟩ := T
  exact pt_imp (pt_cmpR (op_in_kd D) ha (pe_glob (v := .ref d) hg hm rfl hd) (by first | exact nomark _ | rfl)) fun sg H Q h => tD_imp (ap1_read (tst_read (t := tVar 0) h)) fun v H1 q => in_read D hk q
theorem t_tabNin (T : KTab X.K X.w X.mg x tab) (hg : Gl X x) (ha : PE X a (tD X.K xs wx f)) (hd : (x == ("__debug__" : Str)) = false := by decide) : PT X (.Compare a [.NotIn] [.Name x p] pos) (tDT X.K xs wx (tst (ap1 (tabNot tab) f))) := by
  obtain ⟨d, es, n, hm, D, hk⟩ := T
  exact pt_imp (pt_cmpR (op_notIn_kd D) ha (pe_glob (v := .ref d) hg hm rfl hd) (by first | exact nomark _ | rfl)) fun sg H Q h => tD_imp (ap1_read (tst_read (t := tVar 0) h)) fun v H1 q => nin_read D hk q
theorem d_tabIx (T : KTab X.K X.w X.mg x tab) (hg : Gl X x) (ha : PE X a (tD X.K xs wx f)) (hs : PlainIx a) (hd : (x == ("__debug__" : Str)) = false := by decide) : PE X (.Subscript (.Name x p) a pos) (tD X.K xs wx (ap1 (tabGet tab) f)) := by
  obtain ⟨d, es, n, hm, D, hk⟩ := T
  refine pe_imp (pe_ix ix_kdict (pe_glob (v := .ref d) hg hm rfl hd) ha hs) fun sg H Q h => ?_
  refine tD_imp (ap1_read h) fun v H1 q => ?_
  obtain ⟨G, io, st, u1, u, ok, rv, hu, fin⟩ := q
  unfold tabGet at hu
  split at hu
  · rename_i z
    have q := kd_ns D hk z
    rw [hu] at q
    obtain ⟨v', x', q1, q2, q3⟩ := q
    exact ⟨d, z, x', rfl, rv.str', ⟨es, n, v', D.at_, D.lit, q1, q2⟩, fin x' H1 (fun _ _ e => e) (q3 _ _ _)⟩
  · cases hu
end
end D
namespace D
open PySem L2
/-! ### what is never come to -/
def sBad : DS := fun _ _ => .bad
def eBad : DE := fun _ _ => .bad
section
variable {X : Cx} {xs : XS} {wx : WX}
theorem s_bad {s : Stmt} : PS X s (tDS X.K xs wx sBad) := ⟨fun pins s sg H D I h => by
  obtain ⟨F, io, st, env, f, w⟩ := h
  exact w.elim⟩
theorem d_bad {e : Expr} : PE X e (tD X.K xs wx eBad) := ⟨fun pins s sg H Q I h => by
  obtain ⟨G, io, st, env, ok, er, w⟩ := h
  exact w.elim⟩
end
/-! ### range(a, b, c) -/
def rng3 : List U → Option (List U)
  | [.int i, .int j, .int c] => if c ≠ 0 ∧ c.natAbs < 1073741824 ∧ Builtin.Range.small i j c = true ∧ 0 ≤ Builtin.Range.rangeSize i j c then some ((List.range (Builtin.Range.rangeSize i j c).toNat).map fun (k : Nat) => U.int (i + (k : Nat) * c)) else none
  | _ => none
section
variable {K : PySem.W.Frag} {G : Addr → Prop} {io : List Addr} {H : Hp}
theorem wk_rangeC (lo c : Int) (n : Nat) : Wk K G (Itc lo c n) io H ((List.range n).map fun i => U.int (lo + (i : Nat) * c)) := by
  refine ⟨fun i G' io' st' H' ok m hi => ?_, fun i G' io' st' H' ok m hi => ?_⟩
  · have hi' : i < n := by simpa using hi
    refine ⟨hi', fun v H'' y => ?_⟩
    obtain ⟨rfl, rfl⟩ := y
    refine ⟨Same.refl _, .int (lo + i * c), ?_, by unfold Rep; rfl⟩
    simp [hi']
  · show n ≤ i
    simpa using hi
end
section
variable {X : Cx} {xs : XS} {wx : WX} {pos : Pos} {tg : Expr}
theorem i_range3 {a b c : Expr} {f : DA} {p : Pos} (hg : Gl X "range") (hm : X.mg "range" = none) (ha : PA X [a, b, c] (tDA X.K xs wx f)) (hs : starEach [a, b, c] X.env = (false, eval a X.env) :: starEach [b, c] X.env := by rfl) (hpl : (backTo pos (starEach [b, c] X.env)).any (·.1) = false := by rfl) :
    PI X tg (.Call (.Name "range" p) [a, b, c] [] pos) (tI X.K xs wx (itA rng3 f)) :=
  pi_imp (pi_range3 hg hm ha hs hpl) fun sg H R q => by
    obtain ⟨G, io, st, env, ok, er, w⟩ := q
    refine ⟨G, io, st, env, ok, er, w.bind.impR fun st1 io1 H1 us ok1 e1 w1 vs rvs => ?_⟩
    obtain ⟨ws, hu, w2⟩ := w1.pure
    unfold rng3 at hu
    split at hu
    · rename_i i j c
      split at hu
      · rename_i hj
        cases hu
        have e : vs = [V.int i, V.int j, V.int c] := Reps.ofInts (ns := [i, j, c]) rvs
        subst e
        exact ⟨i, j, c, _, rfl, ⟨hj.1, hj.2.1, hj.2.2.1, by have := hj.2.2.2; omega⟩, w2.here ok1 _ (wk_rangeC _ _ _)⟩
      · cases hu
    · cases hu
end
/-! ### extend -/
theorem list_extend_tup (l : Addr) (items : Array Value) (n : Nat) (b : Addr) (items2 : Array Value) (n2 : Nat) (dd : Option Addr) (sl : Array (Option Value)) (hs0 : ¬(!items.isEmpty && Builtin.List.listTooLong (items.size + items2.size)) = true) (hs1 : items.size ≤ sizeLine) (hs2 : items.size + items2.size ≤ sizeLine + 1) :
    Meets (Builtin.«list.extend» ⟨[.ref l, .ref b], []⟩) (fun _ R s => s.heap.get? l = some { cls := .type "list", dict := none, data := .seq items n, slots := #[] } ∧ s.heap.get? b = some { cls := .type "tuple", dict := dd, data := .seq items2 n2, slots := sl } ∧ R (.ok (.ret Value.none)) { s with heap := s.heap.update l (Obj.mapSeq fun x => x ++ items2), toks := s.toks }) :=
  .of_wp fun prog w A R s h => by
    obtain ⟨hp, g, d, tk, os⟩ := s; obtain ⟨hl, hb, h⟩ := h; have f1 := AutoSeq1.idx_int; have f2 := AutoSeq1.sub_tuple_tuple; have f3 := AutoSeq1.sub_list_list; have f4 := AutoSeq1.sub_tuple_list; have f5 := AutoSeq1.sub_list_tuple;
    have hz' : (items ++ items2).size ≤ sizeLine + 1 := by rw [Array.size_append]; exact hs2
    wp_walk using (wpAny_updateSeq hl rfl (hz := hs1) (_hz' := hz')), AutoSeq1.wpAny_loadPart' hl, AutoSeq1.wpAny_loadPart' hb; exact ⟨_, rfl, h⟩
def rExtT (K : PySem.W.Frag) : V → List V → Hp → VK → Prop := fun x vs H Q => ∃ l b xs zs, x = .ref l ∧ vs = [.ref b] ∧ H l = some (.lst xs) ∧ SqT K H b zs ∧ xs.length + zs.length ≤ sizeLine ∧ Q .non (upd H l (.lst (xs ++ zs)))
section
variable {X : Cx}
theorem mt_extT : MtM X "list.extend" (rExtT X.K) := by
  intro pins s σ H x vs v us Q I rx rv h
  obtain ⟨l, b, xs, zs, rfl, rfl, hH, hB, hz, q⟩ := h
  cases rx
  obtain ⟨u, rfl, ru⟩ := rv.one
  cases ru
  obtain ⟨z, its, n, r, hl, e⟩ := I.lstM hH
  obtain ⟨its2, r2, ⟨⟨cls, dd, data, sl⟩, e2, hcls, n2, hdata⟩, z2⟩ := I.tuple hB
  simp only at hcls hdata
  subst hcls; subst hdata
  have l2 := r2.length
  have hsz : its.toArray.size + its2.toArray.size ≤ sizeLine := by rw [List.size_toArray, List.size_toArray]; omega
  have hlong : ¬ (!its.toArray.isEmpty && Builtin.List.listTooLong (its.toArray.size + its2.toArray.size)) = true := by
    rw [notLongL hsz, Bool.and_false]
    exact Bool.false_ne_true
  refine call_meets F.slot_list_extend ⟨_, e, rfl⟩ F.entry_list_extend (F.args_list_extend_2 _ _)
    (list_extend_tup l its.toArray n b its2.toArray n2 dd sl hlong (by rw [List.size_toArray]; omega) (by omega)) ⟨e, e2, ?_⟩
  refine ⟨.non, _, I.lset (its' := its ++ its2) hH e (by simp) (r.append r2) ?_, rfl, q⟩
  rw [List.length_append]
  omega
theorem mt_extA : MtM X "list.extend" (fun x vs H Q => rExtend x vs H Q ∨ rExtT X.K x vs H Q) := by
  intro pins s σ H x vs v us Q I rx rv h
  exact h.elim (mt_extend pins s σ H x vs v us Q I rx rv) (mt_extT pins s σ H x vs v us Q I rx rv)
variable {xs : XS} {wx : WX} {pos : Pos}
def seqU : U → Option (List U)
  | .lst us => some us
  | .tup us => some us
  | _ => none
def sExt (i : Nat) (f : DE) : DS := fun env st => match env[i]? with
  | some (.own us) => (f env st).out env fun u st1 => match seqU u with
    | some ws => if us.length + ws.length ≤ sizeLine then .nx (env.set i (.own (us ++ ws))) st1 else .bad
    | none => .bad
  | _ => .bad
theorem s_ext {i : Nat} {x : Str} {e : Expr} {f : DE} {p1 p2 : Pos} (hN : X.N[i]? = some x) (hv : Vis X.env.scope x) (he : PE X e (tD X.K xs wx f)) (hd : (x == ("__debug__" : Str)) = false := by decide) (hcd : (x == ("__classdict__" : Str)) = false := by decide)
    (hfew : ((backTo pos (starEach [e] X.env)).all (fun x => !x.1) && (backToKw pos (keywordEach [] X.env)).all (fun x => x.1.isSome) && decide ([e].length + ([] : List Keyword).length + (if ([] : List Keyword).isEmpty then 0 else 1) < 30)) = true := by rfl)
    (hline : (p1.endLine == pos.line) = true := by rfl) (hs : starEach (e :: []) X.env = (false, eval e X.env) :: starEach [] X.env := by rfl) (hplain : (backTo pos (starEach [] X.env)).any (·.1) = false := by rfl)
    (hsw : swapsWith (.Call (.Attribute (.Name x p2) "extend" p1) [e] [] pos) none pos.line X.env = Pure.pure false := by rfl) {pos2 : Pos} :
    PS X (.Expr (.Call (.Attribute (.Name x p2) "extend" p1) [e] [] pos) pos2) (tDS X.K xs wx (sExt i f)) := by
  refine ps_imp (ps_expr (pe_bm PySem.F.plainAttrs_list PySem.F.slot_list_extend PySem.F.type_list_extend mt_extA (pe_var (i := i) hN hv hd hcd) (pa_cons he pa_nil hs) (by rfl) hfew hline hs hplain) hsw) fun D sg H h => ?_
  obtain ⟨F, io, st, env, fr, w⟩ := h
  unfold sExt at w
  split at w
  · rename_i us q
    obtain ⟨a, vs, e1, e2, r⟩ := fr.slot q
    refine ⟨.ref a, e1, .inl ⟨rfl, vs, .inl (.inl e2)⟩, ?_⟩
    refine ⟨Gs F env sg, io, st, env, fr.ok, fr.er, (WantsS.expr fr w).impR fun st1 io1 H1 u ok1 ex1 z v rv => ?_⟩
    have z2 := z.2
    obtain ⟨a', vs', e1', e2', r'⟩ := z.1.slot q
    rw [e1] at e1'; cases e1'
    split at z2
    · rename_i ws hws
      split at z2
      · rename_i hl
        cases u with
        | lst us' =>
          cases hws
          obtain ⟨b, zs, rfl, lb, rb⟩ := rv.lst'
          refine .inl ⟨a, b, vs', zs, rfl, rfl, e2', lb.1, by rw [← r'.length, ← rb.length]; exact hl, ?_⟩
          have y := z.1.turnOwn q e1 (r'.append rb)
          exact z2 io1 _ _ y.1 y.2
        | tup us' =>
          cases hws
          obtain ⟨b, zs, rfl, lb, rb⟩ := rv.tup'
          refine .inr ⟨a, b, vs', zs, rfl, rfl, e2', lb.sq, by rw [← r'.length, ← rb.length]; exact hl, ?_⟩
          have y := z.1.turnOwn q e1 (r'.append rb)
          exact z2 io1 _ _ y.1 y.2
        | _ => cases hws
      · exact z2.elim
    · exact z2.elim
  · exact w.elim
theorem sext (i : Nat) {x : Str} {e : Expr} {f : DE} {p1 p2 : Pos} (he : PE X e (tD X.K xs wx f)) (hN : X.N[i]? = some x := by rfl) (hv : Vis X.env.scope x := by first | exact Or.inl rfl | exact Or.inr (Or.inl rfl) | exact Or.inr (Or.inr rfl)) (hd : (x == ("__debug__" : Str)) = false := by decide) (hcd : (x == ("__classdict__" : Str)) = false := by decide)
    (hfew : ((backTo pos (starEach [e] X.env)).all (fun x => !x.1) && (backToKw pos (keywordEach [] X.env)).all (fun x => x.1.isSome) && decide ([e].length + ([] : List Keyword).length + (if ([] : List Keyword).isEmpty then 0 else 1) < 30)) = true := by rfl)
    (hline : (p1.endLine == pos.line) = true := by rfl) (hs : starEach (e :: []) X.env = (false, eval e X.env) :: starEach [] X.env := by rfl) (hplain : (backTo pos (starEach [] X.env)).any (·.1) = false := by rfl)
    (hsw : swapsWith (.Call (.Attribute (.Name x p2) "extend" p1) [e] [] pos) none pos.line X.env = Pure.pure false := by rfl) {pos2 : Pos} :
    PS X (.Expr (.Call (.Attribute (.Name x p2) "extend" p1) [e] [] pos) pos2) (tDS X.K xs wx (sExt i f)) := s_ext hN hv he hd hcd hfew hline hs hplain hsw
end
@[simp] theorem sExt_ap (i : Nat) (f : DE) (env : Env) (st : Store) : sExt i f env st = match env[i]? with
  | some (.own us) => (f env st).out env fun u st1 => match seqU u with
    | some ws => if us.length + ws.length ≤ sizeLine then .nx (env.set i (.own (us ++ ws))) st1 else .bad
    | none => .bad
  | _ => .bad := (rfl)
@[simp] theorem seqU_lst (us : List U) : seqU (.lst us) = some us := (rfl)
@[simp] theorem seqU_tup (us : List U) : seqU (.tup us) = some us := (rfl)
end D
namespace D
open PySem L2
/-! ### xs + ys as a new list -/
def catU : U → U → Option (List U)
  | .lst a, .lst b => if a.length + b.length ≤ sizeLine then some (a ++ b) else none
  | _, _ => none
def catL (f g : DE) : DL := fun env st => (f env st).bind fun u st1 => (g env st1).bind fun v st2 => Rs.of (catU u v) st2
section
variable {X : Cx} {xs : XS} {wx : WX} {pos : Pos}
theorem l_cat {a b : Expr} {f g : DE} (ha : PE X a (tD X.K xs wx f)) (hb : PE X b (tD X.K xs wx g)) : PE X (.BinOp a .Add b pos) (tDL X.K xs wx (catL f g)) :=
  pe_imp (pe_op op_cat ha hb) fun sg H Q q => by
    obtain ⟨G, io, st, env, ok, er, w⟩ := q
    refine ⟨G, io, st, env, ok, er, w.bind.impR fun st1 io1 H1 u ok1 e1 w1 v rv => ?_⟩
    refine ⟨G, io1, st1, env, ok1, er.ext ok.dj e1, w1.bind.impR fun st2 io2 H2 u2 ok2 e2 w2 v2 rv2 => ?_⟩
    obtain ⟨ws, hu, w3⟩ := w2.pure
    unfold catU at hu
    split at hu
    · rename_i as bs
      split at hu
      · rename_i hz
        cases hu
        obtain ⟨p, ys, rfl, l, r⟩ := (rv.ext e2).lst'
        obtain ⟨p', ys', rfl, l', r'⟩ := rv2.lst'
        refine ⟨p, p', ys, ys', rfl, rfl, l.1, l'.1, by rw [← r.length, ← r'.length]; exact hz, fun q hq => ?_⟩
        exact w3.here ok2 _ q (r.append r') hq
      · cases hu
    · cases hu
end
@[simp] theorem catL_ap (f g : DE) (env : Env) (st : Store) : catL f g env st = (f env st).bind fun u st1 => (g env st1).bind fun v st2 => Rs.of (catU u v) st2 := (rfl)
@[simp] theorem catU_lst (a b : List U) : catU (.lst a) (.lst b) = if a.length + b.length ≤ 16777216 then some (a ++ b) else none := by rw [← sizeLine_val]; rfl
end D
namespace D
open PySem L2
section
variable {X : Cx} {xs : XS} {wx : WX} {pos : Pos}
theorem ss_bad {ss : List Stmt} : PSs X ss (tDS X.K xs wx sBad) := ⟨fun pins s sg H D I h => by
  obtain ⟨F, io, st, env, f, w⟩ := h
  exact w.elim⟩
/-! ### max of a list of ints -/
def maxI (n : Int) (r : List Int) : Int := r.foldl (fun a y => if a < y then y else a) n
theorem maxI_mem : ∀ (r : List Int) (n : Int), maxI n r ∈ n :: r
  | [], n => by simp [maxI]
  | y :: r, n => by
    show maxI (if n < y then y else n) r ∈ n :: y :: r
    have := maxI_mem r (if n < y then y else n)
    rcases List.mem_cons.mp this with q | q
    · rw [q]
      split
      · simp
      · simp
    · simp [q]
theorem maxI_ge : ∀ (r : List Int) (n : Int), ∀ a ∈ n :: r, a ≤ maxI n r
  | [], n, a, h => by simp at h; subst h; simp [maxI]
  | y :: r, n, a, h => by
    show a ≤ maxI (if n < y then y else n) r
    have ih := maxI_ge r (if n < y then y else n)
    have h0 := ih _ (List.mem_cons_self ..)
    rcases List.mem_cons.mp h with q | q
    · subst q
      by_cases z : a < y
      · rw [if_pos z] at h0 ⊢; omega
      · rw [if_neg z] at h0 ⊢; exact h0
    · rcases List.mem_cons.mp q with q | q
      · subst q
        by_cases z : n < a
        · rw [if_pos z] at h0 ⊢; exact h0
        · rw [if_neg z] at h0 ⊢; omega
      · exact ih a (List.mem_cons_of_mem _ q)
def maxLN : List U → Option U
  | [.lst us] => match intsU us with
    | some (n :: r) => some (.int (maxI n r))
    | _ => none
  | _ => none
theorem c_maxL (hc : X.calm = true) : CallR X (.builtin "max") (PN X.K maxLN) := by
  intro pins s sg H vs us Q I r h
  obtain ⟨G, io, st, ws, u, ok, rs, e, q⟩ := h
  unfold maxLN at e
  split at e
  · rename_i us'
    split at e
    · rename_i n rr hi
      cases e
      obtain ⟨v, rfl, rv⟩ := rs.one
      obtain ⟨a, ys, rfl, l, r'⟩ := rv.lst'
      have hu := ints_eq hi
      subst hu
      have hy := Reps.ofInts r'
      subst hy
      refine cr_max hc pins s sg H _ us Q I r ⟨a, n :: rr, rfl, l.sq, by simp, fun m hm hle => ?_⟩
      have : m = maxI n rr := by
        have h1 := hle _ (maxI_mem rr n)
        have h2 := maxI_ge rr n m hm
        omega
      subst this
      exact q _ H (Same.refl H) (rInt _)
    · cases e
  · cases e
/-- max(xs, default=d) -/
def maxD2 : U → U → Option U
  | .lst us, d => match intsU us with
    | some (n :: r) => some (.int (maxI n r))
    | some [] => some d
    | none => none
  | _, _ => none
def maxDef (f g : DE) : DE := fun env st => (f env st).bind fun u st1 => (g env st1).bind fun v st2 => Rs.of (maxD2 u v) st2
theorem max_of (n : Int) (r : List Int) : PySem.W.maxOf n r = maxI n r := by
  unfold PySem.W.maxOf maxI
  congr 1
  funext a y
  show (if (decide (a < y)) = true then y else a) = _
  by_cases q : a < y <;> simp [q]
theorem holds_ints {h : Heap} : ∀ {ns : List Int} {its : List Value}, Vals (ns.map V.int) its → PySem.W.HoldAll h its ns
  | [], _, .nil => ⟨_, .nil⟩
  | n :: ns, _, .cons r rs => by
    obtain ⟨t, rfl⟩ := r
    exact PySem.W.HoldAll.cons (PySem.W.holds_int n t) (holds_ints rs)
def rMaxD (K : PySem.W.Frag) : List V → List V → Hp → VK → Prop := fun vs zs H Q => ∃ (a : Addr) (ns : List Int) (d : V), vs = [.ref a] ∧ zs = [d] ∧ SqL K H a (ns.map V.int) ∧ match ns with
  | [] => Q d H
  | n :: r => Q (.int (maxI n r)) H
theorem cr_maxD (hc : X.calm = true) (hu : X.A.units + 64 < cLine) : CallRK X (.builtin "max") [Str.ofString "default"] (rMaxD X.K) := by
  intro pins s sg H vs zs us ws Q I rv rz h
  obtain ⟨a, ns, d, rfl, rfl, hs, q⟩ := h
  obtain ⟨its, rvv, hl, _⟩ := I.list hs
  rw [Vals.ref1 rv]
  obtain ⟨dv, rfl, rd⟩ := rz.one
  refine PySem.W.max_list_datum_default (α := Int) (xs := ns) (I.ok.hd hc) hl.isList (holds_ints rvv) (by show X.A.units + 1 + 0 < cLine; omega) (fun e h' tk hk => ?_) (fun y ys i v h' tk e hi hv hk => ?_)
  · subst e
    exact ⟨d, H, I.kept hk, rd, q⟩
  · subst e
    obtain ⟨t, rfl⟩ := PySem.W.int_of_holds hv
    rw [max_of]
    exact ⟨.int (maxI y ys), H, I.kept hk, ⟨t, rfl⟩, q⟩
theorem d_maxDef {p kp : Pos} {e e2 : Expr} {f g : DE} (hc : X.calm = true) (hu : X.A.units + 64 < cLine) (hg : Gl X "max") (hm : X.mg "max" = none) (ha : PE X e (tD X.K xs wx f)) (hb : PE X e2 (tD X.K xs wx g)) (hs : starEach (e :: []) X.env = (false, eval e X.env) :: starEach [] X.env := by rfl)
    (he : backTo pos (starEach (e :: []) X.env) = (false, eval e X.env) :: backTo pos (starEach [] X.env) := by rfl) (hpl : (backTo pos (starEach (e :: []) X.env)).any (·.1) = false := by rfl)
    (hall : (backToKw pos (keywordEach [⟨some (Str.ofString "default"), e2, kp⟩] X.env)).all (·.1.isSome) = true := by rfl) (hnone : (backToKw pos (keywordEach [⟨some (Str.ofString "default"), e2, kp⟩] X.env)).any (·.1.isNone) = false := by rfl) (hks : (backToKw pos (keywordEach [⟨some (Str.ofString "default"), e2, kp⟩] X.env)).filterMap (·.1) = [Str.ofString "default"] := by rfl) :
    PE X (.Call (.Name "max" p) [e] [⟨some (Str.ofString "default"), e2, kp⟩] pos) (tD X.K xs wx (maxDef f g)) :=
  pe_imp (pe_callBK (cr_maxD hc hu) hg hm bt_max (pa_cons ha pa_nil hs) (pk_cons hb pk_nil) (by decide) (by decide) he hpl hall hnone hks) fun sg H Q q => by
    obtain ⟨G, io, st, env, ok, er, w⟩ := q
    refine ⟨G, io, st, env, ok, er, w.bind.impR fun st1 io1 H1 u ok1 e1 w1 v rv => ?_⟩
    refine ⟨G, io1, st1, env, ok1, er.ext ok.dj e1, w1.bind.impR fun st2 io2 H2 u2 ok2 e2 w2 v2 rv2 => ?_⟩
    obtain ⟨ws, hu, w3⟩ := w2.pure
    have rv := rv.ext e2
    unfold maxD2 at hu
    split at hu
    · rename_i us' d
      obtain ⟨a, ys, rfl, l, r'⟩ := rv.lst'
      split at hu
      · rename_i n r hi
        cases hu
        have hu := ints_eq hi
        subst hu
        have hy := Reps.ofInts r'
        subst hy
        exact ⟨a, n :: r, v2, rfl, rfl, l.sq, w3.here ok2 _ (rInt _)⟩
      · rename_i hi
        cases hu
        have hu := ints_eq hi
        subst hu
        have hy := Reps.ofInts (ns := []) r'
        subst hy
        exact ⟨a, [], v2, rfl, rfl, l.sq, w3.here ok2 _ rv2⟩
      · cases hu
    · cases hu
end
@[simp] theorem maxDef_ap (f g : DE) (env : Env) (st : Store) : maxDef f g env st = (f env st).bind fun u st1 => (g env st1).bind fun v st2 => Rs.of (maxD2 u v) st2 := (rfl)
end D
namespace D
open PySem L2
/-! ### operations at known kinds -/
section
variable (i j : Int) (x y : Str) (us ws : List U) (ns : List Int) (b : Bool)
@[simp] theorem len_str : lenN [.str x] = if x.length ≤ 16777216 then some (.int x.length) else none := by rw [← sizeLine_val]; rfl
@[simp] theorem add_strs : add2 (.str x) (.str y) = if x.length + y.length ≤ 16777216 then some (.str (x ++ y)) else none := by rw [← sizeLine_val]; rfl
@[simp] theorem add_tups : add2 (.tup us) (.tup ws) = if us.length + ws.length ≤ 16777216 then some (.tup (us ++ ws)) else none := by rw [← sizeLine_val]; rfl
@[simp] theorem add_lsts : add2 (.lst us) (.lst ws) = if us.length + ws.length ≤ 16777216 then some (.lst (us ++ ws)) else none := by rw [← sizeLine_val]; rfl
@[simp] theorem mul_int : mul2 (.int i) (.int j) = if smallI i || smallI j then some (.int (i * j)) else none := (rfl)
@[simp] theorem mod_int : mod2 (.int i) (.int j) = if 0 < j then some (.int (i % j)) else none := (rfl)
@[simp] theorem fdiv_int : fdiv2 (.int i) (.int j) = if 0 < j ∧ j < 1073741824 then some (.int (i / j)) else none := (rfl)
@[simp] theorem gt_str : gt2 (.str x) (.str y) = some (.bl (ltC y x)) := (rfl)
@[simp] theorem ge_str : ge2 (.str x) (.str y) = some (.bl (!ltC x y)) := (rfl)
@[simp] theorem szT_ap : szT us = if us.length ≤ 16777216 then some (.tup us) else none := by rw [← sizeLine_val]; rfl
@[simp] theorem szL_ap : szL us = if us.length ≤ 16777216 then some (.lst us) else none := by rw [← sizeLine_val]; rfl
@[simp] theorem items_scr : items (.scr ns) = some (ns.map U.int) := (rfl)
@[simp] theorem items_str : items (.str x) = some (x.cps.toList.map fun c => U.str ⟨#[c]⟩) := (rfl)
@[simp] theorem lstL_lst : lstL [.lst us] = some us := (rfl)
@[simp] theorem lstL_tup : lstL [.tup us] = some us := (rfl)
@[simp] theorem lstL_scr : lstL [.scr ns] = some (ns.map U.int) := (rfl)
@[simp] theorem tupN_lst : tupN [.lst us] = some (.tup us) := (rfl)
@[simp] theorem tupN_tup : tupN [.tup us] = some (.tup us) := (rfl)
@[simp] theorem intN_int : intN [.int i] = some (.int i) := (rfl)
@[simp] theorem intN_bl : intN [.bl b] = some (.int (if b then 1 else 0)) := (rfl)
@[simp] theorem enum_lst : enumerateN [.lst us] = some (numU us) := (rfl)
@[simp] theorem enum_tup : enumerateN [.tup us] = some (numU us) := (rfl)
@[simp] theorem zip_lst : zipN [.lst us, .lst ws] = some (zipU us ws) := (rfl)
@[simp] theorem zip_tup : zipN [.tup us, .tup ws] = some (zipU us ws) := (rfl)
@[simp] theorem rev_lst : rev1 (.lst us) = some us.reverse := (rfl)
@[simp] theorem rev_tup : rev1 (.tup us) = some us.reverse := (rfl)
@[simp] theorem back_lst : back1 (.lst us) = some (.lst us.reverse) := (rfl)
@[simp] theorem back_tup : back1 (.tup us) = some (.tup us.reverse) := (rfl)
@[simp] theorem sl_lst (lo hi : Option Int) : sl3 (.lst us) lo hi = some (.lst (cutL us lo hi)) := (rfl)
@[simp] theorem sl_tup (lo hi : Option Int) : sl3 (.tup us) lo hi = some (.tup (cutL us lo hi)) := (rfl)
@[simp] theorem sl_scr (lo hi : Option Int) : sl3 (.scr ns) lo hi = some (.lst ((cutL ns lo hi).map U.int)) := (rfl)
@[simp] theorem sl_str (lo hi : Option Int) : sl3 (.str x) lo hi = if x.length ≤ 16777216 then some (.str (cutS x lo hi)) else none := by rw [← sizeLine_val]; rfl
@[simp] theorem ix_lst' : ix2 (.lst us) (.int i) = atI us i := (rfl)
@[simp] theorem ix_tup' : ix2 (.tup us) (.int i) = atI us i := (rfl)
@[simp] theorem ix_scr' : ix2 (.scr ns) (.int i) = (atI ns i).map U.int := (rfl)
end
theorem atI_cast {A : Type} (l : List A) (n : Nat) : atI l (n : Int) = l[n]? := by
  cases h : l[n]? with
  | some x => exact atI_nat h
  | none =>
    have hl : l.length ≤ n := List.getElem?_eq_none_iff.mp h
    unfold atI ixN
    rw [if_pos (by omega), if_neg (by omega)]
    rfl
@[simp] theorem atI_nat' {A : Type} (l : List A) (n : Nat) : atI l (n : Int) = l[n]? := atI_cast l n
theorem atI_neg {A : Type} (l : List A) (k : Nat) (h : k + 1 ≤ l.length) : atI l (-((k : Int) + 1)) = l[l.length - (k + 1)]? := by
  unfold atI ixN
  rw [if_neg (by omega), if_pos (by omega)]
  show l[_]? = _
  congr 1
  omega
@[simp] theorem atI_neg1 {A : Type} (l : List A) : atI l (-1) = l.getLast? := by
  cases l with
  | nil => rfl
  | cons a l =>
    have := atI_neg (a :: l) 0 (by simp)
    rw [show (-1 : Int) = -(((0 : Nat) : Int) + 1) from rfl, this, List.getLast?_eq_getElem?]
@[simp] theorem cutL_all {A : Type} (l : List A) : cutL l none none = l := by
  unfold cutL
  rw [HT.sIx_none, HT.sIx_none, List.drop_zero, Nat.sub_zero, List.take_length]
theorem cutL_to {A : Type} (l : List A) (n : Nat) : cutL l none (some (n : Int)) = l.take n := by
  unfold cutL
  rw [HT.sIx_none, HT.sIx_nat, List.drop_zero, Nat.sub_zero, List.take_eq_take_iff]
  omega
theorem cutL_from {A : Type} (l : List A) (n : Nat) : cutL l (some (n : Int)) none = l.drop n := by
  unfold cutL
  rw [HT.sIx_none, HT.sIx_nat]
  by_cases h : n ≤ l.length
  · rw [Nat.min_eq_left h, List.take_of_length_le (by simp)]
  · rw [Nat.min_eq_right (by omega), Nat.sub_self, List.take_zero, List.drop_eq_nil_of_le (by omega)]
theorem cutL_mid {A : Type} (l : List A) (m n : Nat) : cutL l (some (m : Int)) (some (n : Int)) = (l.drop m).take (n - m) := by
  unfold cutL
  rw [HT.sIx_nat, HT.sIx_nat]
  by_cases h : m ≤ l.length
  · rw [Nat.min_eq_left h, List.take_eq_take_iff, List.length_drop]
    omega
  · rw [Nat.min_eq_right (a := m) (by omega), List.drop_length, List.take_nil, List.drop_eq_nil_of_le (by omega), List.take_nil]
@[simp] theorem atI_lit {A : Type} (l : List A) (n : Nat) : atI l (no_index (@OfNat.ofNat Int n instOfNat)) = l[@OfNat.ofNat Nat n (instOfNatNat n)]? := atI_cast l n
@[simp] theorem cutL_toL {A : Type} (l : List A) (n : Nat) : cutL l none (some (no_index (@OfNat.ofNat Int n instOfNat))) = l.take (@OfNat.ofNat Nat n (instOfNatNat n)) := cutL_to l n
@[simp] theorem cutL_fromL {A : Type} (l : List A) (n : Nat) : cutL l (some (no_index (@OfNat.ofNat Int n instOfNat))) none = l.drop (@OfNat.ofNat Nat n (instOfNatNat n)) := cutL_from l n
@[simp] theorem cutL_midL {A : Type} (l : List A) (m n : Nat) : cutL l (some (no_index (@OfNat.ofNat Int m instOfNat))) (some (no_index (@OfNat.ofNat Int n instOfNat))) = (l.drop (@OfNat.ofNat Nat m (instOfNatNat m))).take (@OfNat.ofNat Nat n (instOfNatNat n) - @OfNat.ofNat Nat m (instOfNatNat m)) := cutL_mid l m n
@[simp] theorem cutL_toN {A : Type} (l : List A) : cutL l none (some (-1)) = l.dropLast := by
  have e : HT.sIx l.length l.length (some (-1)) = l.length - 1 := by
    show (if (-1 : Int) < 0 then ((-1 : Int) + (l.length : Int)).toNat else min (-1 : Int).toNat l.length) = _
    rw [if_pos (by decide)]; omega
  unfold cutL
  rw [HT.sIx_none, e, List.drop_zero, Nat.sub_zero, List.dropLast_eq_take]
@[simp] theorem cutL_fromN {A : Type} (l : List A) : cutL l (some (-1)) none = l.drop (l.length - 1) := by
  have e : HT.sIx l.length 0 (some (-1)) = l.length - 1 := by
    show (if (-1 : Int) < 0 then ((-1 : Int) + (l.length : Int)).toNat else min (-1 : Int).toNat l.length) = _
    rw [if_pos (by decide)]; omega
  unfold cutL
  rw [HT.sIx_none, e, List.take_of_length_le (by simp)]
@[simp] theorem cutL_to' {A : Type} (l : List A) (n : Nat) : cutL l none (some (n : Int)) = l.take n := cutL_to l n
@[simp] theorem cutL_from' {A : Type} (l : List A) (n : Nat) : cutL l (some (n : Int)) none = l.drop n := cutL_from l n
@[simp] theorem cutL_mid' {A : Type} (l : List A) (m n : Nat) : cutL l (some (m : Int)) (some (n : Int)) = (l.drop m).take (n - m) := cutL_mid l m n

@[simp] theorem isi_non_str  : isiN [.non, .ty "str"] = some (.bl false) := (rfl)
@[simp] theorem isi_non_int  : isiN [.non, .ty "int"] = some (.bl false) := (rfl)
@[simp] theorem isi_non_bool  : isiN [.non, .ty "bool"] = some (.bl false) := (rfl)
@[simp] theorem isi_non_tuple  : isiN [.non, .ty "tuple"] = some (.bl false) := (rfl)
@[simp] theorem isi_non_list  : isiN [.non, .ty "list"] = some (.bl false) := (rfl)
@[simp] theorem isi_non_dict  : isiN [.non, .ty "dict"] = some (.bl false) := (rfl)
@[simp] theorem isi_bl_str (b : Bool) : isiN [(.bl b), .ty "str"] = some (.bl false) := (rfl)
@[simp] theorem isi_bl_int (b : Bool) : isiN [(.bl b), .ty "int"] = some (.bl true) := (rfl)
@[simp] theorem isi_bl_bool (b : Bool) : isiN [(.bl b), .ty "bool"] = some (.bl true) := (rfl)
@[simp] theorem isi_bl_tuple (b : Bool) : isiN [(.bl b), .ty "tuple"] = some (.bl false) := (rfl)
@[simp] theorem isi_bl_list (b : Bool) : isiN [(.bl b), .ty "list"] = some (.bl false) := (rfl)
@[simp] theorem isi_bl_dict (b : Bool) : isiN [(.bl b), .ty "dict"] = some (.bl false) := (rfl)
@[simp] theorem isi_int_str (i : Int) : isiN [(.int i), .ty "str"] = some (.bl false) := (rfl)
@[simp] theorem isi_int_int (i : Int) : isiN [(.int i), .ty "int"] = some (.bl true) := (rfl)
@[simp] theorem isi_int_bool (i : Int) : isiN [(.int i), .ty "bool"] = some (.bl false) := (rfl)
@[simp] theorem isi_int_tuple (i : Int) : isiN [(.int i), .ty "tuple"] = some (.bl false) := (rfl)
@[simp] theorem isi_int_list (i : Int) : isiN [(.int i), .ty "list"] = some (.bl false) := (rfl)
@[simp] theorem isi_int_dict (i : Int) : isiN [(.int i), .ty "dict"] = some (.bl false) := (rfl)
@[simp] theorem isi_str_str (x : Str) : isiN [(.str x), .ty "str"] = some (.bl true) := (rfl)
@[simp] theorem isi_str_int (x : Str) : isiN [(.str x), .ty "int"] = some (.bl false) := (rfl)
@[simp] theorem isi_str_bool (x : Str) : isiN [(.str x), .ty "bool"] = some (.bl false) := (rfl)
@[simp] theorem isi_str_tuple (x : Str) : isiN [(.str x), .ty "tuple"] = some (.bl false) := (rfl)
@[simp] theorem isi_str_list (x : Str) : isiN [(.str x), .ty "list"] = some (.bl false) := (rfl)
@[simp] theorem isi_str_dict (x : Str) : isiN [(.str x), .ty "dict"] = some (.bl false) := (rfl)
@[simp] theorem isi_tup_str (us : List U) : isiN [(.tup us), .ty "str"] = some (.bl false) := (rfl)
@[simp] theorem isi_tup_int (us : List U) : isiN [(.tup us), .ty "int"] = some (.bl false) := (rfl)
@[simp] theorem isi_tup_bool (us : List U) : isiN [(.tup us), .ty "bool"] = some (.bl false) := (rfl)
@[simp] theorem isi_tup_tuple (us : List U) : isiN [(.tup us), .ty "tuple"] = some (.bl true) := (rfl)
@[simp] theorem isi_tup_list (us : List U) : isiN [(.tup us), .ty "list"] = some (.bl false) := (rfl)
@[simp] theorem isi_tup_dict (us : List U) : isiN [(.tup us), .ty "dict"] = some (.bl false) := (rfl)
@[simp] theorem isi_lst_str (us : List U) : isiN [(.lst us), .ty "str"] = some (.bl false) := (rfl)
@[simp] theorem isi_lst_int (us : List U) : isiN [(.lst us), .ty "int"] = some (.bl false) := (rfl)
@[simp] theorem isi_lst_bool (us : List U) : isiN [(.lst us), .ty "bool"] = some (.bl false) := (rfl)
@[simp] theorem isi_lst_tuple (us : List U) : isiN [(.lst us), .ty "tuple"] = some (.bl false) := (rfl)
@[simp] theorem isi_lst_list (us : List U) : isiN [(.lst us), .ty "list"] = some (.bl true) := (rfl)
@[simp] theorem isi_lst_dict (us : List U) : isiN [(.lst us), .ty "dict"] = some (.bl false) := (rfl)
@[simp] theorem isi_dct_str (ks us : List U) : isiN [(.dct ks us), .ty "str"] = some (.bl false) := (rfl)
@[simp] theorem isi_dct_int (ks us : List U) : isiN [(.dct ks us), .ty "int"] = some (.bl false) := (rfl)
@[simp] theorem isi_dct_bool (ks us : List U) : isiN [(.dct ks us), .ty "bool"] = some (.bl false) := (rfl)
@[simp] theorem isi_dct_tuple (ks us : List U) : isiN [(.dct ks us), .ty "tuple"] = some (.bl false) := (rfl)
@[simp] theorem isi_dct_list (ks us : List U) : isiN [(.dct ks us), .ty "list"] = some (.bl false) := (rfl)
@[simp] theorem isi_dct_dict (ks us : List U) : isiN [(.dct ks us), .ty "dict"] = some (.bl true) := (rfl)
@[simp] theorem isi_scr_str (ns : List Int) : isiN [(.scr ns), .ty "str"] = some (.bl false) := (rfl)
@[simp] theorem isi_scr_int (ns : List Int) : isiN [(.scr ns), .ty "int"] = some (.bl false) := (rfl)
@[simp] theorem isi_scr_bool (ns : List Int) : isiN [(.scr ns), .ty "bool"] = some (.bl false) := (rfl)
@[simp] theorem isi_scr_tuple (ns : List Int) : isiN [(.scr ns), .ty "tuple"] = some (.bl false) := (rfl)
@[simp] theorem isi_scr_list (ns : List Int) : isiN [(.scr ns), .ty "list"] = some (.bl true) := (rfl)
@[simp] theorem isi_scr_dict (ns : List Int) : isiN [(.scr ns), .ty "dict"] = some (.bl false) := (rfl)
@[simp] theorem is_non_non  : is2 .non .non = some (.bl true) := (rfl)
@[simp] theorem isnot_non_non  : isnot2 .non .non = some (.bl false) := (rfl)
@[simp] theorem is_bl_non (b : Bool) : is2 (.bl b) .non = some (.bl false) := (rfl)
@[simp] theorem isnot_bl_non (b : Bool) : isnot2 (.bl b) .non = some (.bl true) := (rfl)
@[simp] theorem is_int_non (i : Int) : is2 (.int i) .non = some (.bl false) := (rfl)
@[simp] theorem isnot_int_non (i : Int) : isnot2 (.int i) .non = some (.bl true) := (rfl)
@[simp] theorem is_str_non (x : Str) : is2 (.str x) .non = some (.bl false) := (rfl)
@[simp] theorem isnot_str_non (x : Str) : isnot2 (.str x) .non = some (.bl true) := (rfl)
@[simp] theorem is_tup_non (us : List U) : is2 (.tup us) .non = some (.bl false) := (rfl)
@[simp] theorem isnot_tup_non (us : List U) : isnot2 (.tup us) .non = some (.bl true) := (rfl)
@[simp] theorem is_lst_non (us : List U) : is2 (.lst us) .non = some (.bl false) := (rfl)
@[simp] theorem isnot_lst_non (us : List U) : isnot2 (.lst us) .non = some (.bl true) := (rfl)
@[simp] theorem is_dct_non (ks us : List U) : is2 (.dct ks us) .non = some (.bl false) := (rfl)
@[simp] theorem isnot_dct_non (ks us : List U) : isnot2 (.dct ks us) .non = some (.bl true) := (rfl)
@[simp] theorem is_scr_non (ns : List Int) : is2 (.scr ns) .non = none := (rfl)
@[simp] theorem isnot_scr_non (ns : List Int) : isnot2 (.scr ns) .non = none := (rfl)
@[simp] theorem is_bl_bl (a b : Bool) : is2 (.bl a) (.bl b) = some (.bl (decide (a = b))) := (rfl)
@[simp] theorem isnot_bl_bl (a b : Bool) : isnot2 (.bl a) (.bl b) = some (.bl (!decide (a = b))) := (rfl)
theorem smallI_lit (i : Int) : smallI i = decide (-18446744073709551616 < i ∧ i < 18446744073709551616) := (rfl)
end D
namespace C
open PySem L2 D
/-! ### tuples of texts -/
abbrev tS (ws : List Str) : U := .tup (ws.map U.str)
abbrev lS (ws : List Str) : U := .lst (ws.map U.str)
@[simp] theorem ofS_inj (a b : String) : (Str.ofString a = Str.ofString b) ↔ a = b := by
  refine ⟨fun h => ?_, fun h => by rw [h]⟩
  have h1 : cpsOfBytes 0 0 a.toByteArray.data.toList = cpsOfBytes 0 0 b.toByteArray.data.toList := by
    have := congrArg (fun x : Str => x.cps.toList) h
    simpa [Str.ofString] using this
  rw [cpsOfBytes_string, cpsOfBytes_string] at h1
  have h2 : a.toList = b.toList := by
    have inj : ∀ l m : List Char, l.map Char.toNat = m.map Char.toNat → l = m := by
      intro l
      induction l with
      | nil => intro m h; cases m with
        | nil => rfl
        | cons _ _ => cases h
      | cons c l ih => intro m h; cases m with
        | nil => cases h
        | cons d m =>
          simp only [List.map_cons, List.cons.injEq] at h
          rw [ih m h.2, Char.ext (UInt32.toNat_inj.mp h.1)]
    exact inj _ _ h1
  rw [← String.ofList_toList (s := a), h2, String.ofList_toList]
theorem eqU_str1 (x y : Str) : eqU (.str y) (.str x) = decide (y = x) := eqU_str y x
theorem any_txt (x : Str) : ∀ ws : List Str, ((ws.map U.str).any fun y => eqU y (.str x)) = decide (x ∈ ws)
  | [] => rfl
  | w :: ws => by
    rw [List.map_cons, List.any_cons, any_txt x ws, eqU_str1]
    rw [Bool.eq_iff_iff, Bool.or_eq_true, decide_eq_true_eq, decide_eq_true_eq, decide_eq_true_eq, List.mem_cons]
    exact or_congr eq_comm Iff.rfl
theorem flat_txt : ∀ ws : List Str, (ws.map U.str).all flatU = true
  | [] => rfl
  | w :: ws => by rw [List.map_cons, List.all_cons, flat_txt ws]; rfl
@[simp] theorem in_txt (x : Str) (ws : List Str) : in2 (.str x) (tS ws) = some (.bl (decide (x ∈ ws))) := by
  show (if flatU (.str x) && (ws.map U.str).all flatU then some (U.bl ((ws.map U.str).any fun y => eqU y (.str x))) else none) = _
  rw [flat_txt, any_txt]; rfl
@[simp] theorem nin_txt (x : Str) (ws : List Str) : nin2 (.str x) (tS ws) = some (.bl (!decide (x ∈ ws))) := by
  show (if flatU (.str x) && (ws.map U.str).all flatU then some (U.bl (!(ws.map U.str).any fun y => eqU y (.str x))) else none) = _
  rw [flat_txt, any_txt]; rfl
theorem eqZ_map {T : Type} [DecidableEq T] {f : T → U} {g : U → U → Option Bool} (h : ∀ a b : T, g (f a) (f b) = some (decide (a = b))) : ∀ as bs : List T, ∃ c, eqZ g (as.map f) (bs.map f) = some c ∧ (c && decide (as.length = bs.length)) = decide (as = bs)
  | [], [] => ⟨true, rfl, by simp⟩
  | [], _ :: _ => ⟨true, rfl, by simp⟩
  | _ :: _, [] => ⟨true, rfl, by simp⟩
  | a :: as, b :: bs => by
    obtain ⟨c, h1, h2⟩ := eqZ_map h as bs
    refine ⟨decide (a = b) && c, by simp only [List.map_cons, eqZ, h, h1], ?_⟩
    have h3 : decide (a :: as = b :: bs) = (decide (a = b) && decide (as = bs)) := by
      by_cases q : a = b <;> by_cases z : as = bs <;> simp [q, z]
    rw [h3, ← h2]
    by_cases q : as.length = bs.length <;> simp [q]
theorem eqF_tup {T : Type} [DecidableEq T] {f : T → U} {n : Nat} (h : ∀ a b : T, eqF n (f a) (f b) = some (decide (a = b))) (as bs : List T) : eqF (n + 1) (.tup (as.map f)) (.tup (bs.map f)) = some (decide (as = bs)) := by
  obtain ⟨c, h1, h2⟩ := eqZ_map h as bs
  simp only [eqF, h1, Option.map_some, List.length_map, h2]
theorem eqF_lst {T : Type} [DecidableEq T] {f : T → U} {n : Nat} (h : ∀ a b : T, eqF n (f a) (f b) = some (decide (a = b))) (as bs : List T) : eqF (n + 1) (.lst (as.map f)) (.lst (bs.map f)) = some (decide (as = bs)) := by
  obtain ⟨c, h1, h2⟩ := eqZ_map h as bs
  by_cases q : as.length = bs.length
  · simp only [q, decide_true, Bool.and_true] at h2
    simp only [eqF, List.length_map, if_pos q, h1, h2]
  · have h3 : as ≠ bs := fun e => q (by rw [e])
    simp only [eqF, List.length_map, if_neg q, h3, decide_false]
theorem eqF_str (n : Nat) (a b : Str) : eqF (n + 1) (.str a) (.str b) = some (decide (a = b)) := by
  show some (a == b) = _
  by_cases q : a = b <;> simp [q]
theorem eqF_int (n : Nat) (a b : Int) : eqF (n + 1) (.int a) (.int b) = some (decide (a = b)) := by
  show some (a == b) = _
  by_cases q : a = b <;> simp [q]
theorem eqF_txt (n : Nat) (as bs : List Str) : eqF (n + 2) (tS as) (tS bs) = some (decide (as = bs)) := eqF_tup (eqF_str n) as bs
theorem eqF_txtL (n : Nat) (as bs : List Str) : eqF (n + 2) (lS as) (lS bs) = some (decide (as = bs)) := eqF_lst (eqF_str n) as bs
@[simp] theorem eq_str (a b : Str) : eq2 (.str a) (.str b) = some (.bl (decide (a = b))) := by unfold eq2; rw [eqF_str 59]; rfl
@[simp] theorem ne_str (a b : Str) : ne2 (.str a) (.str b) = some (.bl (!decide (a = b))) := by unfold ne2; rw [eqF_str 59]; rfl
@[simp] theorem eq_int (a b : Int) : eq2 (.int a) (.int b) = some (.bl (decide (a = b))) := by unfold eq2; rw [eqF_int 59]; rfl
@[simp] theorem ne_int (a b : Int) : ne2 (.int a) (.int b) = some (.bl (!decide (a = b))) := by unfold ne2; rw [eqF_int 59]; rfl
@[simp] theorem eq_bl (a b : Bool) : eq2 (.bl a) (.bl b) = some (.bl (decide (a = b))) := by cases a <;> cases b <;> rfl
@[simp] theorem ne_bl (a b : Bool) : ne2 (.bl a) (.bl b) = some (.bl (!decide (a = b))) := by cases a <;> cases b <;> rfl
theorem ne_txt (as bs : List Str) : ne2 (tS as) (tS bs) = some (.bl (!decide (as = bs))) := by unfold ne2; rw [eqF_txt 58]; rfl
theorem eq_txt (as bs : List Str) : eq2 (tS as) (tS bs) = some (.bl (decide (as = bs))) := by unfold eq2; rw [eqF_txt 58]; rfl
theorem ne_txtL (as bs : List Str) : ne2 (lS as) (lS bs) = some (.bl (!decide (as = bs))) := by unfold ne2; rw [eqF_txtL 58]; rfl
theorem eq_txtL (as bs : List Str) : eq2 (lS as) (lS bs) = some (.bl (decide (as = bs))) := by unfold eq2; rw [eqF_txtL 58]; rfl
theorem eqZ_nil (f : U → U → Option Bool) (us : List U) : eqZ f us [] = some true := by cases us <;> rfl
@[simp] theorem eq_nilT (us : List U) : eq2 (.tup us) (.tup []) = some (.bl us.isEmpty) := by
  unfold eq2 eqF
  rw [eqZ_nil]
  cases us <;> rfl
@[simp] theorem ne_nilT (us : List U) : ne2 (.tup us) (.tup []) = some (.bl (!us.isEmpty)) := by
  unfold ne2 eqF
  rw [eqZ_nil]
  cases us <;> rfl
@[simp] theorem eq_nilL (us : List U) : eq2 (.lst us) (.lst []) = some (.bl us.isEmpty) := by
  cases us <;> rfl
@[simp] theorem ne_nilL (us : List U) : ne2 (.lst us) (.lst []) = some (.bl (!us.isEmpty)) := by
  cases us <;> rfl
theorem add_txt {as bs : List Str} (h : as.length + bs.length ≤ 16777216) : add2 (tS as) (tS bs) = some (tS (as ++ bs)) := by
  unfold tS
  simp [add2, h]
theorem txts_txt (ws : List Str) : txts (tS ws) = some ws := by
  unfold tS txts
  exact strs_map ws
theorem sortSet_txt {ws : List Str} (h : ws.length < 4000) : sortSet1 (tS ws) = some ((sortS (dedS ws)).map U.str) := by
  unfold sortSet1
  rw [txts_txt]
  simp; omega
theorem cut_map {A B : Type} (f : A → B) (l : List A) (lo hi : Option Int) : cutL (l.map f) lo hi = (cutL l lo hi).map f := by
  unfold cutL
  rw [List.length_map, List.map_take, List.map_drop]
theorem sl_txt (ws : List Str) (lo hi : Option Int) : sl3 (tS ws) lo hi = some (tS (cutL ws lo hi)) := by
  show some (U.tup (cutL (ws.map U.str) lo hi)) = _
  rw [cut_map]
/-! ### of two leaves -/
def bothS (a b : List Str) : List Str := a.filter fun x => decide (x ∈ b)
def lackS (a b : List Str) : List Str := a.filter fun x => !decide (x ∈ b)
def joinS (a b : List Str) : List Str := sortS (dedS (a ++ b))
def b_both : DS := (sSeq (sRet (appN tupN (acons (newL (compD (itemsD (var 0)) [2] (tgN 2) (tst (bin in2 (var 2) (var 1))) (var 2))) anil))) sNil)
def f_both : List U → Store → Rs U := runB 3 2 b_both
def b_joined : DS := (sSeq (sRet (appN tupN (acons (newL (itE sortSet1 (bin add2 (var 0) (var 1)))) anil))) sNil)
def f_joined : List U → Store → Rs U := runB 2 2 b_joined
def b_lacking : DS := (sSeq (sRet (appN tupN (acons (newL (compD (itemsD (var 0)) [2] (tgN 2) (tst (bin nin2 (var 2) (var 1))) (var 2))) anil))) sNil)
def f_lacking : List U → Store → Rs U := runB 3 2 b_lacking
def b_within : DS := (sSeq (sRet (bin eq2 (appU f_lacking (acons (var 0) (acons (var 1) anil))) (appN szT anil))) sNil)
def f_within : List U → Store → Rs U := runB 2 2 b_within
theorem items_txt (ws : List Str) : items (tS ws) = some (ws.map U.str) := (rfl)
theorem both_ev (a b : List Str) (ha : a.length ≤ 16777216) (st : Store) : f_both [tS a, tS b] st = .ok (tS (bothS a b)) st := by
  have hc : compL (tgN 2) (tst (bin in2 (var 2) (var 1))) (var 2) (a.map U.str) [.val (tS a), .val (tS b), .un] st = .ok ((bothS a b).map U.str) st :=
    comp_filterM a fun x _ => ⟨_, rfl, by simp, fun _ => by simp⟩
  unfold f_both b_both
  simp [items_txt, ha, wipeE, hc, tupN]
theorem lacking_ev (a b : List Str) (ha : a.length ≤ 16777216) (st : Store) : f_lacking [tS a, tS b] st = .ok (tS (lackS a b)) st := by
  have hc : compL (tgN 2) (tst (bin nin2 (var 2) (var 1))) (var 2) (a.map U.str) [.val (tS a), .val (tS b), .un] st = .ok ((lackS a b).map U.str) st :=
    comp_filterM a fun x _ => ⟨_, rfl, by simp, fun _ => by simp⟩
  unfold f_lacking b_lacking
  simp [items_txt, ha, wipeE, hc, tupN]
theorem joined_ev (a b : List Str) (h : a.length + b.length < 4000) (st : Store) : f_joined [tS a, tS b] st = .ok (tS (joinS a b)) st := by
  have h1 := add_txt (as := a) (bs := b) (by omega)
  have h2 := sortSet_txt (ws := a ++ b) (by rw [List.length_append]; exact h)
  unfold f_joined b_joined
  simp [h1, h2, tupN]
  rfl
theorem within_ev (a b : List Str) (ha : a.length ≤ 16777216) (st : Store) : f_within [tS a, tS b] st = .ok (.bl (decide (lackS a b = []))) st := by
  have h1 := lacking_ev a b ha st
  have h2 := eq_txt (lackS a b) []
  have h2' : eq2 (tS (lackS a b)) (.tup []) = some (.bl (decide (lackS a b = []))) := h2
  unfold f_within b_within
  simp only [tS] at h1 h2' ⊢
  simp [h1, szT, h2', -eq_nilT]
/-! ### words out of a menu that rises -/
theorem sub_filter {M : List Str} (nd : M.Nodup) : ∀ {a : List Str}, a.Sublist M → a = M.filter fun x => decide (x ∈ a) := by
  intro a h
  induction h with
  | slnil => rfl
  | cons m h ih =>
    rename_i a M'
    obtain ⟨n1, n2⟩ := List.nodup_cons.mp nd
    have hm : m ∉ a := fun z => n1 (h.subset z)
    rw [List.filter_cons, if_neg (by simpa using hm)]
    exact ih n2
  | cons_cons m h ih =>
    rename_i a M'
    obtain ⟨n1, n2⟩ := List.nodup_cons.mp nd
    rw [List.filter_cons, if_pos (by simp)]
    congr 1
    rw [ih n2]
    apply List.filter_congr
    intro x hx
    have hxm : x ≠ m := fun z => n1 (z ▸ hx)
    have q := ih n2
    simp [hxm]
    exact fun z => h.subset z
theorem filter_sub {M a : List Str} (nd : M.Nodup) (h : a.Sublist M) (p : Str → Bool) : a.filter p = M.filter fun x => decide (x ∈ a) && p x := by
  conv => lhs; rw [sub_filter nd h]
  rw [List.filter_filter]
  apply List.filter_congr
  intro x _
  rw [Bool.and_comm]
theorem join_sub {M a b : List Str} (nd : M.Nodup) (so : M.Pairwise leS) (ha : ∀ x ∈ a, x ∈ M) (hb : ∀ x ∈ b, x ∈ M) : joinS a b = M.filter fun x => decide (x ∈ a) || decide (x ∈ b) := by
  unfold joinS
  refine List.Perm.eq_of_pairwise (fun _ _ _ _ p q => leS_anti p q) (sort_sorted _) (so.filter _) ((sort_perm _).trans ?_)
  refine (List.perm_ext_iff_of_nodup (ded_nodup _) (nd.filter _)).mpr fun x => ?_
  rw [ded_mem, List.mem_append, List.mem_filter]
  rw [Bool.or_eq_true, decide_eq_true_eq, decide_eq_true_eq]
  constructor
  · rintro (h | h)
    · exact ⟨ha x h, .inl h⟩
    · exact ⟨hb x h, .inr h⟩
  · exact fun h => h.2
end C
namespace C
open PySem L2 D
/-! ### the menu of ten words -/
def menuS : List Str := [Str.ofString "a", Str.ofString "ab", Str.ofString "b", Str.ofString "gate", Str.ofString "open", Str.ofString "pay", Str.ofString "paying", Str.ofString "z", Str.ofString "zz", Str.ofString "zzzzzzzz"]
theorem menu_nodup : menuS.Nodup := by decide +kernel
theorem menu_words : ∀ w ∈ menuS, isWordS w = true := by decide +kernel
theorem menu_valid : ∀ w ∈ menuS, valid w = true := by decide +kernel
def risesL : List Str → Bool
  | x :: y :: r => !ltC y x && risesL (y :: r)
  | _ => true
theorem rises_pw : ∀ l : List Str, risesL l = true → l.Pairwise leS
  | [], _ => List.Pairwise.nil
  | [x], _ => List.pairwise_singleton _ _
  | x :: y :: r, h => by
    unfold risesL at h
    rw [Bool.and_eq_true, Bool.not_eq_true'] at h
    have ih := rises_pw (y :: r) h.2
    have hxy : leS x y := (leS_iff x y).mpr h.1
    refine List.pairwise_cons.mpr ⟨fun z hz => ?_, ih⟩
    rcases List.mem_cons.mp hz with e | e
    · subst e; exact hxy
    · exact leS_trans hxy ((List.pairwise_cons.mp ih).1 z e)
theorem menu_rises : menuS.Pairwise leS := rises_pw _ (by decide +kernel)
def someS (n : Int) : List Str := ((List.range 10).filter fun i => decide (n / (2 ^ i) % 2 = 1)).map fun i => menuS.getD i Str.empty
theorem some_sub (n : Int) : (someS n).Sublist menuS := by
  have e : (List.range 10).map (fun i => menuS.getD i Str.empty) = menuS := by decide +kernel
  conv => rhs; rw [← e]
  exact List.filter_sublist.map _
theorem some_len (n : Int) : (someS n).length ≤ 10 := (some_sub n).length_le
def b_l_menu : DS := (sSeq (sRet (appN szL (acons (cst (.str (Str.ofString "a"))) (acons (cst (.str (Str.ofString "ab"))) (acons (cst (.str (Str.ofString "b"))) (acons (cst (.str (Str.ofString "gate"))) (acons (cst (.str (Str.ofString "open"))) (acons (cst (.str (Str.ofString "pay"))) (acons (cst (.str (Str.ofString "paying"))) (acons (cst (.str (Str.ofString "z"))) (acons (cst (.str (Str.ofString "zz"))) (acons (cst (.str (Str.ofString "zzzzzzzz"))) anil)))))))))))) sNil)
def f_l_menu : List U → Store → Rs U := runB 0 0 b_l_menu
def b_l_some : DS := (sSeq (sSet 2 (slD (appU f_l_menu anil) noO (soO (var 1)))) (sSeq (sRet (appN tupN (acons (newL (compD (itA rng1 (acons (appN lenN (acons (var 2) anil)) anil)) [3] (tgN 3) (tst (bin eq2 (bin mod2 (bin fdiv2 (var 0) (bin shl2 (cst (.int 1)) (var 3))) (cst (.int 2))) (cst (.int 1)))) (bin ix2 (var 2) (var 3)))) anil))) sNil))
def f_l_some : List U → Store → Rs U := runB 4 2 b_l_some
theorem menu_ev (st : Store) : f_l_menu [] st = .ok (lS menuS) st := (rfl)
theorem menu_at (i : Nat) (h : i < 10) : ix2 (lS menuS) (.int (i : Int)) = some (.str (menuS.getD i Str.empty)) := by
  have hl : i < menuS.length := h
  rw [List.getD_eq_getElem?_getD, List.getElem?_eq_getElem hl]
  exact atI_at (l := menuS.map U.str) (by rw [List.getElem?_map, List.getElem?_eq_getElem hl]; rfl)
theorem two_pow (i : Nat) (h : i < 10) : (0 : Int) < 2 ^ i ∧ (2 : Int) ^ i < 1073741824 := by
  have : i = 0 ∨ i = 1 ∨ i = 2 ∨ i = 3 ∨ i = 4 ∨ i = 5 ∨ i = 6 ∨ i = 7 ∨ i = 8 ∨ i = 9 := by omega
  rcases this with rfl | rfl | rfl | rfl | rfl | rfl | rfl | rfl | rfl | rfl <;> decide
theorem some_ev (n : Int) (st : Store) : f_l_some [.int n, .int 10] st = .ok (tS (someS n)) st := by
  have hc : compL (tgN 3) (tst (D.bin eq2 (D.bin mod2 (D.bin fdiv2 (var 0) (D.bin shl2 (cst (.int 1)) (var 3))) (cst (.int 2))) (cst (.int 1)))) (D.bin ix2 (var 2) (var 3)) ((List.range 10).map fun i => U.int (i : Nat)) [.val (.int n), .val (.int 10), .val (lS menuS), .un] st = .ok ((someS n).map U.str) st := by
    unfold someS
    rw [List.map_map]
    refine comp_filterM (List.range 10) fun i hi => ?_
    have hi := List.mem_range.mp hi
    have h1 := menu_at i hi
    obtain ⟨h2, h3⟩ := two_pow i hi
    have h4 : (0 : Int) ≤ (i : Int) ∧ (i : Int) ≤ 1000000 := by omega
    generalize lS menuS = m at h1
    refine ⟨_, rfl, ?_, fun _ => ?_⟩
    · simp [shl2, h4, fdiv2, h2, h3, mod2]
    · simp [h1]
  have h10 : sl3 (lS menuS) none (some 10) = some (lS menuS) := rfl
  have hl : lenN [lS menuS] = some (.int 10) := rfl
  have hm := menu_ev st
  generalize lS menuS = m at *
  have hr' : rng1 [U.int 10] = some ((List.range 10).map fun i => U.int (i : Nat)) := rng1_nat 10 (by decide)
  unfold f_l_some b_l_some
  simp [hm, h10, hl, hr', wipeE]
  simp [hc, tupN]
theorem sub_valid {a : List Str} (h : a.Sublist menuS) : ∀ w ∈ a, valid w = true := fun w hw => menu_valid w (h.subset hw)
end C
namespace C
open PySem L2 D
/-! ### rows -/
def tab_PARTS : List (Str × U) := [(Str.ofString "set", (.tup [(.str (Str.ofString "word")), (.str (Str.ofString "number"))])), (Str.ofString "same", (.tup [(.str (Str.ofString "word")), (.str (Str.ofString "word"))])), (Str.ofString "sum", (.tup [(.str (Str.ofString "word")), (.str (Str.ofString "word")), (.str (Str.ofString "word"))])), (Str.ofString "less", (.tup [(.str (Str.ofString "word")), (.str (Str.ofString "word")), (.str (Str.ofString "word"))])), (Str.ofString "hold", (.tup [(.str (Str.ofString "word")), (.str (Str.ofString "word")), (.str (Str.ofString "args"))])), (Str.ofString "call", (.tup [(.str (Str.ofString "word")), (.str (Str.ofString "word")), (.str (Str.ofString "args")), (.str (Str.ofString "leaves"))])), (Str.ofString "last", (.tup [(.str (Str.ofString "word")), (.str (Str.ofString "args")), (.str (Str.ofString "leaves"))])), (Str.ofString "give", (.tup [(.str (Str.ofString "word"))])), (Str.ofString "keep", (.tup [(.str (Str.ofString "word")), (.str (Str.ofString "word"))])), (Str.ofString "kept", (.tup [(.str (Str.ofString "word")), (.str (Str.ofString "word"))])), (Str.ofString "skip", (.tup [(.str (Str.ofString "word")), (.str (Str.ofString "over"))])), (Str.ofString "over", (.tup [(.str (Str.ofString "over"))])), (Str.ofString "on", (.tup [])), (Str.ofString "count", (.tup [])), (Str.ofString "ask", (.tup [(.str (Str.ofString "word")), (.str (Str.ofString "over"))])), (Str.ofString "deed", (.tup [(.str (Str.ofString "word")), (.str (Str.ofString "word"))])), (Str.ofString "done", (.tup [(.str (Str.ofString "word")), (.str (Str.ofString "word"))]))]
def b_are_args : DS := (sSeq (sRet (andV (appN isiN (acons (var 0) (acons (cst (.ty "tuple")) anil))) (andV (bin le2 (appN lenN (acons (var 0) anil)) (cst (.int 4))) (appN allN (acons (newL (compD (itemsD (var 0)) [1] (tgN 1) yesT (appU f_is_word (acons (var 1) anil)))) anil))))) sNil)
def f_are_args : List U → Store → Rs U := runB 2 1 b_are_args
def b_is_whole : DS := (sSeq (sRet (andV (appN isiN (acons (var 0) (acons (cst (.ty "int")) anil))) (notV (appN isiN (acons (var 0) (acons (cst (.ty "bool")) anil)))))) sNil)
def f_is_whole : List U → Store → Rs U := runB 1 1 b_is_whole
def b_is_number : DS := (sSeq (sRet (andV (appU f_is_whole (acons (var 0) anil)) (bin le2 (appN absN (acons (var 0) anil)) (cst (.int 1000000000000000000))))) sNil)
def f_is_number : List U → Store → Rs U := runB 1 1 b_is_number
def b_is_part : DS := (sSeq (sIf (tst (bin eq2 (var 0) (cst (.str (Str.ofString "word"))))) (sSeq (sRet (appU f_is_word (acons (var 1) anil))) sNil) sNil) (sSeq (sIf (tst (bin eq2 (var 0) (cst (.str (Str.ofString "number"))))) (sSeq (sRet (appU f_is_number (acons (var 1) anil))) sNil) sNil) (sSeq (sIf (tst (bin eq2 (var 0) (cst (.str (Str.ofString "args"))))) (sSeq (sRet (appU f_are_args (acons (var 1) anil))) sNil) sNil) (sSeq (sIf (tst (bin eq2 (var 0) (cst (.str (Str.ofString "leaves"))))) (sSeq (sRet (appU f_are_leaves (acons (var 1) anil))) sNil) sNil) (sSeq (sRet (andV (appU f_is_whole (acons (var 1) anil)) (bin gt2 (var 1) (cst (.int 0))))) sNil)))))
def f_is_part : List U → Store → Rs U := runB 2 2 b_is_part
def b_is_row : DS := (sSeq (sIf (orT (notT (tst (appN isiN (acons (var 0) (acons (cst (.ty "tuple")) anil))))) (orT (tst (bin eq2 (var 0) (appN szT anil))) (notT (tst (appN isiN (acons (bin ix2 (var 0) (cst (.int 0))) (acons (cst (.ty "str")) anil))))))) (sSeq (sRet (cst (.bl false))) sNil) sNil) (sSeq (sIf (orT (tst (ap1 (tabNot tab_PARTS) (bin ix2 (var 0) (cst (.int 0))))) (tst (bin ne2 (appN lenN (acons (var 0) anil)) (bin add2 (appN lenN (acons (ap1 (tabGet tab_PARTS) (bin ix2 (var 0) (cst (.int 0)))) anil)) (cst (.int 1)))))) (sSeq (sRet (cst (.bl false))) sNil) sNil) (sSeq (sRet (appN allN (acons (newL (compD (itA zipN (acons (ap1 (tabGet tab_PARTS) (bin ix2 (var 0) (cst (.int 0)))) (acons (slD (var 0) (soO (cst (.int 1))) noO) anil))) [1, 2] (tgT [1, 2]) yesT (appU f_is_part (acons (var 1) (acons (var 2) anil))))) anil))) sNil)))
def f_is_row : List U → Store → Rs U := runB 3 1 b_is_row
theorem isi_ev {u : U} {t n : String} (ht : tyU u = some t) (hn : n ∈ tyNames) : isiN [u, .ty n] = some (.bl (isB t n)) := by
  simp [isiN, ht, hn]
def wholeU : U → Bool
  | .int _ => true
  | _ => false
def numbU : U → Bool
  | .int i => decide (-1000000000000000000 ≤ i ∧ i ≤ 1000000000000000000)
  | _ => false
def overU : U → Bool
  | .int i => decide (0 < i)
  | _ => false
def argsU : U → Bool
  | .tup us => decide (us.length ≤ 4) && us.all wordU
  | _ => false
def tame1 : U → Bool
  | .tup us => us.all tame
  | u => tame u
def tame2 : U → Bool
  | .tup us => us.all tame1
  | u => tame u
theorem tame1_ty {u : U} (h : tame1 u = true) : ∃ t, tyU u = some t := by
  cases u <;> first | exact ⟨_, rfl⟩ | cases h
theorem tame1_tame {u : U} (h : tame1 u = true) : tame u = true := by
  cases u <;> first | exact h | rfl
theorem is_whole_ev {u : U} {t : String} (h : tyU u = some t) (st : Store) : f_is_whole [u] st = .ok (.bl (wholeU u)) st := by
  unfold f_is_whole b_is_whole
  cases u <;> first | cases h | skip
  all_goals simp [isiN, tyU, tyNames, isB, wholeU]
theorem is_number_ev {u : U} {t : String} (h : tyU u = some t) (st : Store) : f_is_number [u] st = .ok (.bl (numbU u)) st := by
  have e := is_whole_ev h st
  unfold f_is_number b_is_number
  cases u <;> first | cases h | skip
  case int i =>
    have q : ((if i < 0 then -i else i) ≤ 1000000000000000000) ↔ (-1000000000000000000 ≤ i ∧ i ≤ 1000000000000000000) := by split <;> omega
    simp [e, wholeU, absN, le2, numbU, q]
  all_goals simp [e, wholeU, numbU]
theorem all_bls (bs : List Bool) : allN [.lst (bs.map U.bl)] = some (.bl (bs.all id)) := by
  simp [allN, bools_map]
theorem are_args_ev {u : U} (h : tame1 u = true) (st : Store) : f_are_args [u] st = .ok (.bl (argsU u)) st := by
  unfold f_are_args b_are_args
  cases u <;> first | cases h | skip
  case tup us =>
    have h' : us.all tame = true := h
    rw [List.all_eq_true] at h'
    by_cases h4 : us.length ≤ 4
    · have i4 : (us.length : Int) ≤ 4 := by omega
      have hz : us.length ≤ 16777216 := by omega
      have hc : compL (tgN 1) yesT (appU f_is_word (acons (var 1) anil)) (us.map id) [.val (.tup us), .un] st = .ok (us.map fun u => U.bl (wordU u)) st :=
        comp_allM us fun u hu => ⟨_, rfl, by simp [is_word_any (h' u hu) st]⟩
      rw [List.map_id] at hc
      have ha := all_bls (us.map wordU)
      rw [List.map_map] at ha
      have ha' : allN [.lst (us.map fun u => U.bl (wordU u))] = some (.bl (us.all wordU)) := by
        rw [show (fun u => U.bl (wordU u)) = U.bl ∘ wordU from rfl, ha, List.all_map]
        rfl
      have it : items (.tup us) = some us := rfl
      simp [isiN, tyU, tyNames, isB, lenN, le2, i4, it, hz, wipeE, hc, ha', argsU, h4]
    · have i4 : ¬ (us.length : Int) ≤ 4 := by omega
      simp [isiN, tyU, tyNames, isB, lenN, le2, i4, argsU, h4]
  all_goals simp [isiN, tyU, tyNames, isB, argsU]
theorem are_leaves_ev {u : U} (h : tame1 u = true) (st : Store) : f_are_leaves [u] st = .ok (.bl (areL u)) st := by
  cases u <;> first | cases h | skip
  case tup us => exact are_leaves_tup us h st
  all_goals exact are_leaves_no rfl (by decide) st
abbrev wWord : Str := Str.ofString "word"
abbrev wNumber : Str := Str.ofString "number"
abbrev wArgs : Str := Str.ofString "args"
abbrev wLeaves : Str := Str.ofString "leaves"
def partU (s : Str) (u : U) : Bool := if s = wWord then wordU u else if s = wNumber then numbU u else if s = wArgs then argsU u else if s = wLeaves then areL u else overU u
theorem is_part_ev (s : Str) {u : U} (h : tame1 u = true) (st : Store) : f_is_part [.str s, u] st = .ok (.bl (partU s u)) st := by
  obtain ⟨t, ht⟩ := tame1_ty h
  have e1 := is_word_any (tame1_tame h) st
  have e2 := is_number_ev ht st
  have e3 := are_args_ev h st
  have e4 := are_leaves_ev h st
  have e5 := is_whole_ev ht st
  unfold f_is_part b_is_part partU
  by_cases q1 : s = wWord
  · simp [q1, e1]
  · by_cases q2 : s = wNumber
    · simp [q2, e2]
    · by_cases q3 : s = wArgs
      · simp [q3, e3]
      · by_cases q4 : s = wLeaves
        · simp [q4, e4]
        · simp only [wWord, wNumber, wArgs, wLeaves] at q1 q2 q3 q4
          cases u <;> first | (simp [q1, q2, q3, q4, e5, wholeU, gt2, overU]; done) | cases h
def tabS : List (Str × List Str) := [(Str.ofString "set", [wWord, wNumber]), (Str.ofString "same", [wWord, wWord]), (Str.ofString "sum", [wWord, wWord, wWord]), (Str.ofString "less", [wWord, wWord, wWord]), (Str.ofString "hold", [wWord, wWord, wArgs]), (Str.ofString "call", [wWord, wWord, wArgs, wLeaves]),
  (Str.ofString "last", [wWord, wArgs, wLeaves]), (Str.ofString "give", [wWord]), (Str.ofString "keep", [wWord, wWord]), (Str.ofString "kept", [wWord, wWord]), (Str.ofString "skip", [wWord, Str.ofString "over"]), (Str.ofString "over", [Str.ofString "over"]), (Str.ofString "on", []), (Str.ofString "count", []),
  (Str.ofString "ask", [wWord, Str.ofString "over"]), (Str.ofString "deed", [wWord, wWord]), (Str.ofString "done", [wWord, wWord])]
theorem tab_eq : tab_PARTS = tabS.map fun p => (p.1, tS p.2) := rfl
def lookS (w : Str) : Option (List Str) := (tabS.find? fun p => decide (p.1 = w)).map (·.2)
theorem tab_at (w : Str) : tabAt tab_PARTS w = (lookS w).map tS := by
  unfold tabAt lookS
  rw [tab_eq, List.find?_map, Option.map_map, Option.map_map]
  rfl
theorem look_len {w : Str} {ss : List Str} (h : lookS w = some ss) : ss.length ≤ 4 := by
  unfold lookS at h
  rw [Option.map_eq_some_iff] at h
  obtain ⟨p, h1, rfl⟩ := h
  have := List.mem_of_find?_eq_some h1
  have all : ∀ p ∈ tabS, p.2.length ≤ 4 := by decide
  exact all p this
def rowU : U → Bool
  | .tup (.str w :: ps) => match lookS w with
    | some ss => decide (ps.length = ss.length) && (List.zipWith partU ss ps).all id
    | none => false
  | _ => false
theorem zipU_txt (ss : List Str) (ps : List U) : zipU (ss.map U.str) ps = (ss.zip ps).map fun p => U.tup [.str p.1, p.2] := by
  unfold zipU
  rw [List.zipWith_map_left, ← List.map_zipWith, List.zip]
  induction ss generalizing ps with
  | nil => rfl
  | cons s ss ih => cases ps with
    | nil => rfl
    | cons p ps => simp [ih]
theorem isEmpty_cons {A : Type} (a : A) (l : List A) : (a :: l).isEmpty = false := rfl
theorem cut_tail {A : Type} (a : A) (l : List A) : cutL (a :: l) (some 1) none = l := by
  unfold cutL
  rw [HT.sIx_none, show ((1 : Int)) = ((1 : Nat) : Int) from rfl, HT.sIx_nat]
  simp
set_option maxHeartbeats 2000000 in
theorem is_row_ev {u : U} (h : tame2 u = true) (st : Store) : f_is_row [u] st = .ok (.bl (rowU u)) st := by
  unfold f_is_row b_is_row
  cases u <;> first | cases h | skip
  case tup us =>
    cases us with
    | nil => simp [rowU]
    | cons x ps =>
      have h' : (x :: ps).all tame1 = true := h
      rw [List.all_eq_true] at h'
      obtain ⟨t, ht⟩ := tame1_ty (h' x (List.mem_cons_self ..))
      have ix0 : ix2 (.tup (x :: ps)) (.int 0) = some x := ix_tup (us := x :: ps) (k := 0) rfl
      by_cases hs : t = "str"
      · subst hs
        obtain ⟨w, rfl⟩ : ∃ w, x = .str w := by
          cases x with
          | str w => exact ⟨w, rfl⟩
          | _ => simp [tyU] at ht
        have ht2 := tab_at w
        cases hl : lookS w with
        | none =>
          rw [hl] at ht2
          simp [tabNot, ht2, rowU, hl]
        | some ss =>
          rw [hl] at ht2
          have ht2 : tabAt tab_PARTS w = some (tS ss) := ht2
          have h4 := look_len hl
          have sl1 : sl3 (.tup (.str w :: ps)) (some 1) none = some (.tup ps) := by
            unfold sl3
            simp only
            rw [cut_tail]
          have hc : compL (tgT [1, 2]) yesT (appU f_is_part (acons (var 1) (acons (var 2) anil))) (zipU (ss.map U.str) ps) [.val (.tup (.str w :: ps)), .un, .un] st = .ok ((ss.zip ps).map fun p => U.bl (partU p.1 p.2)) st := by
            rw [zipU_txt]
            refine comp_allM (ss.zip ps) fun p hp => ⟨_, rfl, ?_⟩
            have := is_part_ev p.1 (h' p.2 (List.mem_cons_of_mem _ (List.of_mem_zip hp).2)) st
            simp [this]
          have ha := all_bls ((ss.zip ps).map fun p => partU p.1 p.2)
          rw [List.map_map] at ha
          have hz : List.zipWith partU ss ps = (ss.zip ps).map fun p => partU p.1 p.2 := by
            rw [List.zip, List.map_zipWith]
          have zl : (zipU (ss.map U.str) ps).length ≤ 16777216 := by
            unfold zipU
            rw [List.length_zipWith, List.length_map]
            omega
          have hn : ∀ a b : Nat, (decide ((a : Int) + 1 = (b : Int) + 1)) = decide (a = b) := fun a b => by
            by_cases q : a = b
            · simp [q]
            · have : ¬ ((a : Int) + 1 = (b : Int) + 1) := by omega
              simp [q]; omega
          have hx : ((ps.length : Int) + 1 = (ss.length : Int) + 1) ↔ ps.length = ss.length := by omega
          by_cases q : ps.length = ss.length
          · have ha' : allN [.lst ((ss.zip ps).map fun p => U.bl (partU p.1 p.2))] = some (.bl (((ss.zip ps).map fun p => partU p.1 p.2).all id)) := ha
            simp only [tS] at *
            simp [tabNot, tabGet, ht2, q, zl, wipeE, hc, ha', rowU, hl, hz, -List.all_map]
          · simp only [tS] at *
            simp [tabNot, tabGet, ht2, q, rowU, hl, hx]
      · have e1 : isiN [x, .ty "str"] = some (.bl false) := by rw [isi_ev ht (by decide)]; simp [isB, hs]
        have e2 : rowU (.tup (x :: ps)) = false := by
          cases x <;> first | rfl | skip
          cases ht; exact absurd rfl hs
        have e3 : isiN [.tup (x :: ps), .ty "tuple"] = some (.bl true) := rfl
        simp [e1, e2]
  all_goals simp [rowU]
end C
namespace D
open PySem L2
/-! ### a list of the frame's own that is looked into, and stays its own -/
def ownL : Option Sl → Option (List U)
  | some (.own us) => some us
  | some (.val (.lst us)) => some us
  | _ => none
def flat1 (o : Option U) : Option U := match o with
  | some u => if flatU u then some u else none
  | none => none
def binO (g : U → U → Option U) (fa : DE) (i : Nat) : DE := fun env st => (fa env st).bind fun u st1 => Rs.of ((ownL env[i]?).bind fun us => flat1 (g u (.lst us))) st1
def lenO (i : Nat) : DE := fun env st => Rs.of ((ownL env[i]?).bind fun us => flat1 (lenN [.lst us])) st
theorem flat_any {K : PySem.W.Frag} {W W' : Addr → Prop} {io io' : List Addr} {H H' : Hp} {u : U} {v : V} (h : flatU u = true) (r : Rep K W io H u v) : Rep K W' io' H' u v := by
  cases u <;> first | (unfold Rep at r ⊢; exact r) | cases h
theorem own_look {K : PySem.W.Frag} {G : Addr → Prop} {io : List Addr} {st : Store} {H : Hp} {env : Env} {sg : L2.St} {i : Nat} {us : List U} (ok : Ok K G io st H) (er : EnvRep K G io H env sg) (h : ownL env[i]? = some us) :
    ∃ v G', sg[i]? = some (some v) ∧ (∀ b, G' b → G b) ∧ Ok K G' io st H ∧ Rep K (Wf G' io) io H (.lst us) v := by
  have hi : ∀ s, env[i]? = some s → ∃ o, sg[i]? = some o := fun s e => by
    have hl : i < sg.length := by rw [← er.len]; exact (List.getElem?_eq_some_iff.mp e).1
    exact ⟨_, List.getElem?_eq_getElem hl⟩
  unfold ownL at h
  split at h
  · rename_i ws e
    cases h
    obtain ⟨o, ho⟩ := hi _ e
    obtain ⟨a, vs, rfl, q2, q3, q4⟩ := er.sl i _ o e ho
    have sub : ∀ b, (fun b => G b ∧ b ≠ a) b → G b := fun b z => z.1
    have m : Mono G io H (fun b => G b ∧ b ≠ a) io H := ⟨⟨[], by simp⟩, fun b o n z => ⟨z, fun y => n (y.imp (fun w => w.1) id)⟩⟩
    refine ⟨.ref a, _, ho, sub, ok.mono sub, ?_⟩
    unfold Rep
    exact ⟨a, vs, rfl, ⟨q3, fun z => z.elim (fun w => w.2 rfl) fun w => ok.dj a w q2⟩, q4.mono m⟩
  · rename_i ws e
    cases h
    obtain ⟨o, ho⟩ := hi _ e
    obtain ⟨v, rfl, q⟩ := er.sl i _ o e ho
    exact ⟨v, G, ho, fun _ z => z, ok, q⟩
  · cases h
theorem flat1_of {o : Option U} {u : U} (h : flat1 o = some u) : o = some u ∧ flatU u = true := by
  unfold flat1 at h
  split at h
  · split at h
    · rename_i q; cases h; exact ⟨rfl, q⟩
    · cases h
  · cases h
section
variable {X : Cx} {xs : XS} {wx : WX} {pos : Pos}
theorem binO_read {g : U → U → Option U} {fa : DE} {i : Nat} {sg : L2.St} {H : Hp} {Q : VK} (h : tD X.K xs wx (binO g fa i) sg H Q) : tOp (P2 X.K g) (tD X.K xs wx fa) (tVar i) sg H Q := by
  obtain ⟨G, io, st, env, ok, er, w⟩ := h
  refine ⟨G, io, st, env, ok, er, w.bind.impR fun st1 io1 H1 u ok1 e1 w1 v rv => ?_⟩
  obtain ⟨a, ha, w3⟩ := w1.pure
  cases hO : ownL env[i]? with
  | none => rw [hO] at ha; cases ha
  | some us =>
    rw [hO] at ha
    obtain ⟨hg, hf⟩ := flat1_of ha
    obtain ⟨y, G', hy, sub, ok', ry⟩ := own_look ok1 (er.ext ok.dj e1) hO
    have m : Mono G io1 H1 G' io1 H1 := ⟨⟨[], by simp⟩, fun b o n z => ⟨z, fun q => n (q.imp (sub b) id)⟩⟩
    exact ⟨y, hy, G', io1, st1, u, .lst us, a, ok', rv.mono m, ry, hg, fun v' H' s r => w3.hereS ok1 s v' (flat_any hf r)⟩
theorem d_cmpO {op : CmpOp} {g : U → U → Option U} {a b : Expr} {fa : DE} {i : Nat} (ho : OpR X (compareOp op) (P2 X.K g)) (ha : PE X a (tD X.K xs wx fa)) (hb : PE X b (tVar i)) (hm : behindInMarks op b = false := by first | exact nomark _ | rfl) : PE X (.Compare a [op] [b] pos) (tD X.K xs wx (binO g fa i)) :=
  pe_imp (pe_cmpR ho ha hb hm) fun _ _ _ h => binO_read h
theorem t_cmpO {op : CmpOp} {g : U → U → Option U} {a b : Expr} {fa : DE} {i : Nat} (ho : OpR X (compareOp op) (P2 X.K g)) (ha : PE X a (tD X.K xs wx fa)) (hb : PE X b (tVar i)) (hm : behindInMarks op b = false := by first | exact nomark _ | rfl) :
    PT X (.Compare a [op] [b] pos) (tDT X.K xs wx (tst (binO g fa i))) := pt_imp (pt_cmpR ho ha hb hm) fun sg H Q h => by
  obtain ⟨G, io, st, env, ok, er, w⟩ := h
  refine binO_read (Q := fun x H1 => ∃ k, x = .bl k ∧ Q k H1) ?_
  exact tst_read (t := tVar 0) ⟨G, io, st, env, ok, er, w⟩
end
@[simp] theorem binO_ap (g : U → U → Option U) (fa : DE) (i : Nat) (env : Env) (st : Store) : binO g fa i env st = (fa env st).bind fun u st1 => Rs.of ((ownL env[i]?).bind fun us => flat1 (g u (.lst us))) st1 := (rfl)
@[simp] theorem ownL_own (us : List U) : ownL (some (.own us)) = some us := (rfl)
@[simp] theorem ownL_val (us : List U) : ownL (some (.val (.lst us))) = some us := (rfl)
@[simp] theorem flat1_bl (b : Bool) : flat1 (some (.bl b)) = some (.bl b) := (rfl)
@[simp] theorem flat1_int (b : Int) : flat1 (some (.int b)) = some (.int b) := (rfl)
end D
namespace D
open PySem L2
/-! ### what was caught stays as an object -/
section
variable {X : Cx} {pins pn' : List (Addr × Obj)} {sg : L2.St} {H : Hp} {s : Shared}
theorem exk_ok {P : Program} {w : World} {H : Hp} {h : Heap} {a : Addr} {cls : Value} {d : Option Addr} {oe : Obj} {vs : Array Value} (e : h.get? a = some oe) (z : Zc cls d oe) (q : oe.data = .fields vs) : ObjOk P w H h a (exk cls d a) :=
  ⟨⟨oe, vs, e, z, q⟩, ⟨oe, e⟩, fun _ _ ⟨o, v, y, r⟩ k => ⟨o, v, k o y, r⟩⟩
theorem track (I : Inv X pins sg H s) {a : Addr} {o : HO} (na : H a = none) (n0 : X.s_0.heap.get? a = none) (nL : a ≠ X.env.locals) (nC : ∀ v, ¬ s.heap.IsCell a v) (np : ∀ p ∈ X.pn ++ pins, p.1 ≠ a) (new : ObjOk X.prog X.w (upd H a o) s.heap a o) : Inv X pins sg (upd H a o) s := by
  have ne : ∀ b u, H b = some u → b ≠ a := fun b u h => ne_of_none h na
  have cne : ∀ x c, X.env.cells.lookup x = some c → c ≠ a := fun x c e z => by
    obtain ⟨v, q⟩ := I.cell x c e
    subst z
    exact nC v q
  refine ⟨I.ok, I.os, I.bare, ⟨I.base.keep, I.base.slot, fun b u q n x => ?_, I.base.there, fun b xs q => ?_, fun b u v q => ?_, fun b ps q => ?_⟩, I.loc, I.cell, ?_, fun x c e => ?_, fun p hp => ?_, fun b u e => ?_, I.len⟩
  · rw [upd_ne (fun z => by rw [z, n0] at q; cases q)]
    exact I.base.free b u q n x
  · have z := I.base.tups b xs q
    rw [upd_ne (ne _ _ z)]; exact z
  · have z := I.base.frzs b u v q
    rw [upd_ne (ne _ _ z)]; exact z
  · obtain ⟨m, z⟩ := I.base.tbls b ps q
    exact ⟨m, by rw [upd_ne (ne _ _ z)]; exact z⟩
  · rw [upd_ne (Ne.symm nL)]; exact I.free
  · rw [upd_ne (cne x c e)]; exact I.freeC x c e
  · obtain ⟨e, n, r⟩ := I.pin p hp
    exact ⟨e, by rw [upd_ne (np p hp)]; exact n, r⟩
  · by_cases hb : b = a
    · subst hb
      rw [upd_same] at e
      cases e
      exact new
    · rw [upd_ne hb] at e
      exact (I.hok b u e).stay (fun c v _ q => q) (fun c q => by rw [upd_ne (ne _ _ q)]; exact q) fun c xs q => by rw [upd_ne (ne _ _ q)]; exact q
end
/-- what 'except x as n: y = n' wishes of an exception of the body -/
def wKeep (K : PySem.W.Frag) (c : Value) (i j : Nat) (Wout : WX) (D : Ends) : WX := fun cls d sg H =>
  ∃ b, PySem.W.exmOne K cls c = some b ∧ (b = true → ∀ a, H a = none → D.nx (((sg.set i (some (.ref a))).set j (some (.ref a))).set i none) (upd H a (exk cls d a))) ∧ (b = false → Wout cls d sg H)
section
variable {X : Cx} {x n y : Str} {c : Value} {i j : Nat} {body : List Stmt} {np p1 p2 p3 pos pos' : Pos} {tb : WX → TS} {Wout : WX}
theorem ps_try_keep (hs : X.stack = X.env :: X.outer) (hf : X.env.frame = some X.env.locals) (hex : X.ex = []) (hN : X.N.Nodup) (hi : X.N[i]? = some n) (hln : X.env.kindOf n = some .local) (hj : X.N[j]? = some y) (hly : X.env.kindOf y = some .local) (hc : Names X x c) (tk : Takes X Wout)
    (hb : ∀ (W : WX) (pn : List (Addr × Obj)) (xe : Value → Shared → Prop), Takes (X.tr pn xe) W → PassesOwn (model X.prog X.w) X.A X.env xe → PSs (X.tr pn xe) body (tb W))
    (hsw : swapsWith (.Name n p2) (some (.Name y p1)) p3.line X.env = Pure.pure false := by rfl) (hd : (n == ("__debug__" : Str)) = false := by decide) (hcd : (n == ("__classdict__" : Str)) = false := by decide) :
    PS X (.Try body [.ExceptHandler (some (.Name x np)) (some n) [.Assign [.Name y p1] (.Name n p2) p3] pos'] [] [] pos) (fun D sg H => tb (wKeep X.K c i j Wout D) D sg H) := by
  refine ⟨fun pins s sg H D I h => ?_⟩
  have ok := I.ok
  have hfr : X.A.frames = some (X.env :: X.outer) := by rw [ok.frames, hs]
  have hloc : Loc X.env.scope n := .inl hln
  refine wpAny_Try_except ?_
  refine wpAny_mono ((hb (wKeep X.K c i j Wout D) (X.pn ++ pins) (fun e s₁ => wpAny (model X.prog X.w) X.A (noteFrame e X.env) (fun _ s₂ => wpAny (model X.prog X.w) X.A (setFlight e none) (fun _ s₃ =>
    wpAny (model X.prog X.w) X.A (handleBy e X.env [.ExceptHandler (some (.Name x np)) (some n) [.Assign [.Name y p1] (.Name n p2) p3] pos']) (SP X pins D) X.xe s₃) X.xe s₂) X.xe s₁) (fun u s' xx => ?_) PassesOwn.looking).run [] s sg H D (I.toTry _) h) (fun f s1 hsp => ?_) (fun e s1 he => he)
  · obtain ⟨a, B, sI, pins', sg', H', cls, d, rfl, J', nb, up, sky, na, os, ag, b, hb1, hyes, hno⟩ := xx
    have J : Inv X pins sg' H' sI := J'.ofTry ok
    have sky' : Sky B (X.env :: X.outer) a (Zc cls d) X.env.locals s'.heap := by rw [← hs]; exact sky
    show wpAny (model X.prog X.w) X.A (noteFrame (.ref a) X.env) _ _ _
    refine Sky.land Zc.steady hfr hf sky' fun h3 fl3 up3 => ?_
    have J3 : Inv X pins sg' H' { s' with heap := h3 } := J.landed nb fl3.1 (up.trans up3) os ag
    obtain ⟨oe3, vs3, he3, hz3, hd3⟩ := fl3.there
    have notFr : ∀ {h : Heap} {o : Obj} {vs : Array Value}, h.FunFrames B (X.env :: X.outer) → h.get? a = some o → o.data = .fields vs → a ∉ frs (X.env :: X.outer) := fun {h o vs} ff e dd hm => by
      obtain ⟨_, o', e', hnf⟩ := ff.mem hm
      rw [e] at e'; cases e'
      exact hnf _ dd
    have nfr := notFr fl3.2.2.1 he3 hd3
    have nL : a ≠ X.env.locals := fun z => nfr (List.mem_filterMap.mpr ⟨X.env, List.mem_cons_self, by rw [hf, z]⟩)
    have nF : a ∉ X.fs := fun hm => by
      obtain ⟨e, he, q⟩ := List.mem_filterMap.mp hm
      exact nfr (List.mem_filterMap.mpr ⟨e, List.mem_cons_of_mem _ he, q⟩)
    have nB : B.get? a = none := fl3.2.1
    have n0 : X.s_0.heap.get? a = none := by
      cases q : X.s_0.heap.get? a with
      | none => rfl
      | some o =>
        obtain ⟨o', q'⟩ := J.base.there a o q (by rw [hex]; exact fun z => nomatch z)
        have z := nb a o' q' (by rw [hs]; exact nfr)
        rw [nB] at z; cases z
    have npn : ∀ p ∈ X.pn ++ pins, p.1 ≠ a := fun p hp z => by
      obtain ⟨e, _, l, f, _⟩ := J.pin p hp
      have q := nb p.1 p.2 e (by
        rw [hs]
        intro hm
        obtain ⟨e0, he0, q0⟩ := List.mem_filterMap.mp hm
        rcases List.mem_cons.mp he0 with z0 | z0
        · subst z0; rw [hf] at q0; exact l (Option.some.inj q0).symm
        · exact f (List.mem_filterMap.mpr ⟨e0, z0, q0⟩))
      rw [z, nB] at q; cases q
    have S3 := J3.suite he3 hd3 na nL nF
    refine wpAny_handleBy_cons (codeAny_handlers_test ?_) (by intro q; cases q)
    have LT : PySem.W.Looks (model X.prog X.w) h3 (typeOf (.ref a)) cls := fun A Q E s k q => wpAny_typeOf_ref (k _ _ he3) (by rw [hz3.1]; exact q)
    have LM := PySem.W.exm_one (M := model X.prog X.w) (J3.kIn) LT hb1
    have test : ∀ {Q : Value → Shared → Prop} {E : Value → Shared → Prop}, Q c { s' with heap := h3 } → wpAny (model X.prog X.w) (X.A.mark (some (.ref a))) (eval (.Name x np) X.env) Q E { s' with heap := h3 } := fun {Q E} q => by
      obtain ⟨hg, hdbg, hm | ⟨hm, hv, hnn⟩⟩ := hc
      · exact ld_glob (X := X.suite a ((a, oe3) :: (X.pn ++ pins))) S3 hg hm q hdbg
      · exact ld_blt (X := X.suite a ((a, oe3) :: (X.pn ++ pins))) S3 hg hm hv q hnn hdbg
    refine test (LM.here ?_)
    cases b with
    | true =>
      refine codeAny_handlers_suite_as ?_
      refine HandSPX.lands_againZ fl3 fun h4 fl4 up4 => ?_
      have J4 : Inv X pins sg' H' { s' with heap := h4 } := J.landed nb fl4.1 ((up.trans up3).trans up4) os ag
      obtain ⟨oe4, vs4, he4, hz4, hd4⟩ := fl4.there
      have S4 := J4.suite he4 hd4 na nL nF
      refine store_ok (X := X.suite a ((a, oe4) :: (X.pn ++ pins))) (v := .ref a) S4 hN hi hloc rfl (fun s5 S5 => ?_) (.inr hln)
      have one : PSs (X.suite a ((a, oe4) :: (X.pn ++ pins))) [.Assign [.Name y p1] (.Name n p2) p3] _ := pss_cons (ps_set (X := X.suite a ((a, oe4) :: (X.pn ++ pins))) hN hj (.inl hly) (pe_var (i := i) hi (.inl hln) hd hcd) hsw (.inr hly)) pss_nil
      have hil : i < sg'.length := by
        rw [J.len]
        exact (List.getElem?_eq_some_iff.mp hi).1
      refine wpAny_mono (one.run [] s5 (sg'.set i (some (.ref a))) H' { nx := fun sg6 H6 => sg6 = (sg'.set i (some (.ref a))).set j (some (.ref a)) ∧ H6 = H', rt := fun _ _ => False, bk := fun _ _ => False, ct := fun _ _ => False } S5 ⟨.ref a, List.getElem?_set_self hil, rfl, rfl⟩) (fun f s6 hsp => ?_) (fun _ _ z => False.elim z)
      cases f with
      | next =>
        obtain ⟨sg6, H6, S6, e1, e2⟩ := hsp
        subst e1; subst e2
        refine gone_ok (X := X.suite a ((a, oe4) :: (X.pn ++ pins))) S6 hN hi hln fun s7 S7 => ?_
        obtain ⟨ha7, _, _, _, nc7⟩ := S7.pin (a, oe4) (List.mem_append_left _ List.mem_cons_self)
        exact ⟨_, _, track (S7.unsuite ok) na n0 nL (fun v z => by obtain ⟨o, z1, z2⟩ := z; rw [ha7] at z1; cases z1; exact nc7 v z2) npn (exk_ok ha7 hz4 hd4), hyes rfl a na⟩
      | brk => obtain ⟨_, _, _, q⟩ := hsp; exact q.elim
      | cont => obtain ⟨_, _, _, q⟩ := hsp; exact q.elim
      | ret u => obtain ⟨_, _, _, _, _, q⟩ := hsp; exact q.elim
    | false =>
      show wpAny _ X.A (handleBy (.ref a) X.env []) _ _ _
      refine wpAny_handleBy_nil ?_
      obtain ⟨k1, k2, k3, oe, vs, T, oT, ts', he, hz, hd, h1, hr⟩ := id fl3
      unfold PySem.passOn
      refine wpAny_bind (wpAny_field he hd h1 ?_)
      rw [if_neg (show ¬ ((Value.ref T == Value.none) = true) from by simp)]
      have fin : wpAny (model X.prog X.w) X.A (setFlight (.ref a) X.env.frame) (fun _ s4 => wpAny (model X.prog X.w) X.A (throw (.ref a) : Sem Flow) (SP X pins D) X.xe s4) X.xe { s' with heap := h3 } := by
        rw [hf]
        refine HandSPX.setFlight_upZ fl3 fun h4 hh4 up4 => wpAny_throw (tk _ _ ?_)
        exact ⟨a, B, sI, pins, sg', H', cls, d, rfl, J, nb, (up.trans up3).trans up4, .inr (.inr (by rw [hs]; exact hh4)), na, os, ag, hno rfl⟩
      first
        | exact wpAny_bind (wpAny_pure (wpAny_bind fin))
        | exact wpAny_bind fin
  · cases f with
    | next =>
      obtain ⟨sg', H', J', q⟩ := hsp
      exact wpAny_execs_nil ⟨sg', H', J'.ofTry ok, q⟩
    | brk =>
      obtain ⟨sg', H', J', q⟩ := hsp
      exact ⟨sg', H', J'.ofTry ok, q⟩
    | cont =>
      obtain ⟨sg', H', J', q⟩ := hsp
      exact ⟨sg', H', J'.ofTry ok, q⟩
    | ret u =>
      obtain ⟨v, sg', H', J', r, q⟩ := hsp
      exact ⟨v, sg', H', J'.ofTry ok, r, q⟩
end
end D
namespace D
open PySem L2
/-! ### the store gets an object -/
section
variable {K : PySem.W.Frag} {F : Addr → Prop} {io : List Addr} {st : Store} {env : Env} {sg : L2.St} {H : Hp}
theorem Fr.alloc (f : Fr K F io st env sg H) {a : Addr} {o : HO} {ob : Ob} (na : H a = none) (hx : NX o) (new : ObRep K (Wf (Gs F env sg) (io ++ [a])) (io ++ [a]) (upd H a o) a ob) :
    Fr K F (io ++ [a]) (st ++ [ob]) env sg (upd H a o) ∧ Ext io H (io ++ [a]) (upd H a o) := by
  have nW : ¬ Wf (Gs F env sg) io a := f.ok.fresh na
  have s : Same H (upd H a o) := same_upd na
  have ex : Ext io H (io ++ [a]) (upd H a o) := ⟨⟨[a], rfl, fun b hb => by rw [List.mem_singleton] at hb; rw [hb]; exact na⟩, fun b u _ h => s b u h, fun b u h => ⟨u, s b u h⟩⟩
  have ok : Ok K (Gs F env sg) (io ++ [a]) (st ++ [ob]) (upd H a o) := by
    refine ⟨?_, fun b hb z => ?_, fun b hb => ?_, by simp [f.ok.len], fun n ob' b e1 e2 => ?_⟩
    · rw [List.nodup_append]
      refine ⟨f.ok.nd, by simp, fun x hx y hy e => ?_⟩
      rw [List.mem_singleton] at hy
      subst hy; subst e
      exact nW (.inr hx)
    · rcases List.mem_append.mp hb with h | h
      · exact f.ok.dj b h z
      · rw [List.mem_singleton] at h; subst h
        exact nW (.inl z)
    · by_cases e : b = a
      · subst e; exact ⟨o, upd_same, hx⟩
      · have hb' : Wf (Gs F env sg) io b := hb.imp id fun z => by
          rcases List.mem_append.mp z with h | h
          · exact h
          · exact (e (List.mem_singleton.mp h)).elim
        obtain ⟨u, q, x⟩ := f.ok.trk b hb'
        exact ⟨u, s b u q, x⟩
    · by_cases hn : n < io.length
      · rw [List.getElem?_append_left hn] at e2
        rw [List.getElem?_append_left (by rw [f.ok.len]; exact hn)] at e1
        exact (f.ok.obs n ob' b e1 e2).mono ex.mono (fun u q => s b u q) fun dd ws q => s _ _ q
      · rw [List.getElem?_append_right (Nat.le_of_not_lt hn)] at e2
        rw [List.getElem?_append_right (by rw [f.ok.len]; exact Nat.le_of_not_lt hn)] at e1
        rw [f.ok.len] at e1
        have h0 : n - io.length = 0 := by
          cases h : n - io.length with
          | zero => rfl
          | succ k => rw [h] at e2; simp at e2
        rw [h0] at e1 e2
        simp only [List.getElem?_cons_zero, Option.some.injEq] at e1 e2
        subst e1; subst e2
        exact new
  exact ⟨f.ext ok ex, ex⟩
theorem ow_set_un {i : Nat} {o : Option V} {a : Addr} (h : Ow (env.set i .un) (sg.set i o) a) : Ow env sg a := by
  obtain ⟨j, us, h1, h2⟩ := h
  by_cases hj : i = j
  · subst hj
    by_cases hl : i < env.length
    · rw [List.getElem?_set_self hl] at h1; cases h1
    · rw [List.getElem?_eq_none (by simpa using Nat.le_of_not_lt hl)] at h1; cases h1
  · rw [List.getElem?_set_ne hj] at h1 h2
    exact ⟨j, us, h1, h2⟩
theorem Fr.setUn (f : Fr K F io st env sg H) (i : Nat) : Fr K F io st (env.set i .un) (sg.set i none) H ∧ ExtO io H (Ow env sg) io H (Ow (env.set i .un) (sg.set i none)) := by
  have sub : ∀ a, Gs F (env.set i .un) (sg.set i none) a → Gs F env sg a := fun a h => h.imp id ow_set_un
  have ex : ExtO io H (Ow env sg) io H (Ow (env.set i .un) (sg.set i none)) := ⟨⟨[], by simp, fun _ h => nomatch h⟩, fun _ _ _ _ h => h, fun _ o h => ⟨o, h⟩, fun a h => .inl (ow_set_un h)⟩
  have m := ex.mono (F := F)
  refine ⟨⟨f.ok.mono sub, ⟨by simp [f.er.len], fun j s o h1 h2 => ?_⟩, fun a h => f.nF a (ow_set_un h), fun j k a us us' h1 h2 h3 h4 => ?_⟩, ex⟩
  · by_cases hj : i = j
    · subst hj
      by_cases hl : i < env.length
      · rw [List.getElem?_set_self hl] at h1
        cases h1
        trivial
      · rw [List.getElem?_eq_none (by simpa using Nat.le_of_not_lt hl)] at h1; cases h1
    · have g1 := h1; have g2 := h2
      rw [List.getElem?_set_ne hj] at h1 h2
      have q := f.er.sl j s o h1 h2
      cases s with
      | un => trivial
      | val u' => obtain ⟨v', q1, q2⟩ := q; exact ⟨v', q1, q2.mono m⟩
      | own us =>
        obtain ⟨a, vs, q1, q2, q3, q4⟩ := q
        subst q1
        exact ⟨a, vs, rfl, .inr ⟨j, us, g1, g2⟩, q3, q4.mono m⟩
  · have nj : ∀ (k : Nat) (us : List U), (env.set i .un)[k]? = some (.own us) → i ≠ k := fun k us h e => by
      subst e
      by_cases hl : i < env.length
      · rw [List.getElem?_set_self hl] at h; cases h
      · rw [List.getElem?_eq_none (by simpa using Nat.le_of_not_lt hl)] at h; cases h
    have n1 := nj j us h1
    have n2 := nj k us' h2
    rw [List.getElem?_set_ne n1] at h1 h3
    rw [List.getElem?_set_ne n2] at h2 h4
    exact f.dd j k a us us' h1 h2 h3 h4
end
/-! ### try -/
/-- exceptions as this layer tells them -/
def XSd (K : PySem.W.Frag) : XS := fun c fs cls d H => ∃ C, clsAt K c = some C ∧ cls = .ref C ∧ XD fs d H
def tabB (l : List (Str × Bool)) (c : Str) : Option Bool := l.lookup c
def TabOk (l : List (Str × Bool)) (P : Str → Bool → Prop) : Prop := ∀ c b, tabB l c = some b → P c b
theorem tab_nil {P : Str → Bool → Prop} : TabOk [] P := fun _ _ h => nomatch h
theorem tab_cons {P : Str → Bool → Prop} {c : Str} {b : Bool} {l : List (Str × Bool)} (h : P c b) (t : TabOk l P) : TabOk ((c, b) :: l) P := fun c' b' e => by
  unfold tabB at e
  rw [List.lookup_cons] at e
  split at e
  · rename_i q
    cases e
    rw [beq_iff_eq.mp q]
    exact h
  · exact t c' b' e
theorem clsAt_of {K : PySem.W.Frag} {c : Str} {C : Addr} (h : PySem.W.nsIn K mainGlobals c = some (some (.ref C))) : clsAt K c = some C := by unfold clsAt; rw [h]
def sTryK (t : List (Str × Bool)) (i j : Nat) (b : DS) : DS := fun env st => match b env st with
  | .ex c fs env' st' => match tabB t c with
    | some true => .nx (((env'.set i (.val (.ref st'.length))).set j (.val (.ref st'.length))).set i .un) (st' ++ [.ins c fs])
    | some false => .ex c fs env' st'
    | none => .bad
  | o => o
section
variable {X : Cx} {wx : WX} {x n y : Str} {c : Value} {i j : Nat} {body : List Stmt} {np p1 p2 p3 pos pos' : Pos}
theorem s_try {t : List (Str × Bool)} {b : DS} (hs : X.stack = X.env :: X.outer) (hf : X.env.frame = some X.env.locals) (hex : X.ex = []) (hN : X.N.Nodup) (hi : X.N[i]? = some n) (hln : X.env.kindOf n = some .local) (hj : X.N[j]? = some y) (hly : X.env.kindOf y = some .local) (hc : Names X x c) (tk : Takes X wx)
    (ht : TabOk t fun k v => ∃ C, clsAt X.K k = some C ∧ PySem.W.exmOne X.K (.ref C) c = some v)
    (hb : ∀ (W : WX) (pn : List (Addr × Obj)) (xe : Value → Shared → Prop), Takes (X.tr pn xe) W → PassesOwn (model X.prog X.w) X.A X.env xe → PSs (X.tr pn xe) body (tDS X.K (XSd X.K) W b))
    (hsw : swapsWith (.Name n p2) (some (.Name y p1)) p3.line X.env = Pure.pure false := by rfl) (hd : (n == ("__debug__" : Str)) = false := by decide) (hcd : (n == ("__classdict__" : Str)) = false := by decide) :
    PS X (.Try body [.ExceptHandler (some (.Name x np)) (some n) [.Assign [.Name y p1] (.Name n p2) p3] pos'] [] [] pos) (tDS X.K (XSd X.K) wx (sTryK t i j b)) :=
  ps_imp (ps_try_keep (tb := fun W => tDS X.K (XSd X.K) W b) hs hf hex hN hi hln hj hly hc tk hb hsw hd hcd) fun D sg H h => by
    obtain ⟨F, io, st, env, fr, w⟩ := h
    refine ⟨F, io, st, env, fr, ?_⟩
    unfold sTryK at w
    cases q : b env st with
    | nx env' st' => rw [q] at w; exact w
    | rt u st' => rw [q] at w; exact w
    | bk env' st' => rw [q] at w; exact w
    | ct env' st' => rw [q] at w; exact w
    | bad => rw [q] at w; exact w
    | ex k fs env' st' =>
      rw [q] at w
      simp only at w
      intro io' sg' H' f' e' cls d hx
      obtain ⟨C, hC, rfl, xd⟩ := hx
      cases hv : tabB t k with
      | none => rw [hv] at w; exact w.elim
      | some v =>
        rw [hv] at w
        obtain ⟨C', hC', hm⟩ := ht k v hv
        rw [hC] at hC'; cases hC'
        refine ⟨v, hm, fun hv' a na => ?_, fun hv' => ?_⟩
        · subst hv'
          have new : ObRep X.K (Wf (Gs F env' sg') (io' ++ [a])) (io' ++ [a]) (upd H' a (exk (.ref C) d a)) a (.ins k fs) := ⟨C, d, hC, upd_same, xd.keep fun dd ws z => same_upd na _ _ z⟩
          obtain ⟨f1, e1⟩ := f'.alloc na nx_exk new
          have rr : ∀ (W : Addr → Prop), Rep X.K W (io' ++ [a]) (upd H' a (exk (.ref C) d a)) (.ref st'.length) (.ref a) := fun W => by
            unfold Rep
            refine ⟨a, ?_, rfl⟩
            rw [f'.ok.len, List.getElem?_append_right (Nat.le_refl _)]
            simp
          obtain ⟨f2, e2⟩ := f1.setVal (i := i) (rr _)
          obtain ⟨f3, e3⟩ := f2.setVal (i := j) (rr _)
          obtain ⟨f4, e4⟩ := f3.setUn i
          exact w _ _ _ f4 (((e'.trans (e1.o _)).trans e2).trans (e3.trans e4))
        · subst hv'
          exact w io' sg' H' f' e' _ _ ⟨C, hC, rfl, xd⟩
end
/-! ### isinstance of what was caught -/
section
open PySem.W PySem.Spec PySem.Calls PyProof.Rows
variable {prog : Program} {w : World} {A : Around} {E : Value → Shared → Prop} {s : Shared} {K : Frag} {x D : Addr} {ox : Obj} {od : Option Obj}
theorem findObj_dat {C : Addr} {name : Str} {a g : Value} (hc : (clsIn K C).isSome = true) (ha : findIn K (.ref C) name = some (some a)) (hg : specialIn K a "__get__" = some (some g)) (ht : takesIn K a = some true) : findObj K C od name = some (.bind g a) := by
  obtain ⟨cd, hc⟩ := Option.isSome_iff_exists.mp hc
  unfold findObj
  rw [hc, Option.bind_some, ha, Option.bind_some]
  simp [hg, ht]
theorem cls_exc {Q : Option Value → Shared → Prop} (c : ExcC K D) (X : K.In s.heap) (I : PySem.W.InstAt s.heap x ox D od) (h : Q (some (.ref D)) { s with toks := s.toks + 1 }) : wpAny (model prog w) A (getAttr? (.ref x) "__class__") Q E s := by
  have hf : findObj K D od "__class__" = some (.bind (.builtin "getset_descriptor.__get__") (.builtin "object.__class__")) := findObj_dat (by obtain ⟨cd, hc, _⟩ := any_some c.hd; rw [hc]; rfl) c.ha c.hn c.ht
  obtain ⟨hp, g, d, t, os⟩ := s
  have L0 := I.type (M := model prog w)
  have L1 := looks_findIn (M := model prog w) X c.hg
  have L2 := looks_findIn (M := model prog w) X c.hk
  have L3 := looks_find (M := model prog w) X I hf
  have sub : Looks (model prog w) hp (isInstance (.ref x) (.type "BaseException")) true := L0.andThen (looks_subIn X c.hs)
  have hx0 : (false && onTheHeap (Value.builtin "BaseException.__getattribute__")) = false := rfl
  have hx2 : (Value.builtin "BaseException.__getattribute__" == Value.builtin "object.__getattribute__") = false := by decide +kernel
  have hx1 : (onTheHeap (Value.ref D) && Value.builtin "BaseException.__getattribute__" == Value.builtin "object.__getattribute__") = false := by rw [hx2]; rfl
  unfold getAttr? getAttrBy? getAttrBy
  refine wpAny_bind (wpAny_mkText (wpAny_bind (wpAny_attempt (wpAny_holding (wpAny_bind (L0.at (wpAny_bind (L1.at ?_))))))))
  show wpAny _ _ (if (onTheHeap (Value.ref D) && Value.builtin "BaseException.__getattribute__" == Value.builtin "object.__getattribute__") = true then _ else _) _ _ _
  rw [hx1, if_neg Bool.false_ne_true]
  unfold getAttrByItsOwn hookBefore
  refine wpAny_bind ?_
  rw [if_pos (show onTheHeap (Value.ref D) = true from rfl)]
  refine L2.at ?_
  refine wpAny_bind (wpAny_attempt (wpAny_holding ?_))
  unfold callGetattribute
  rw [hx0, if_neg Bool.false_ne_true]
  unfold boundAndCalled
  rw [PySem.F.excAttr_ValueError.ga.bind (.ref x)]
  refine wpAny_bind (wpAny_pure ?_)
  show wpAny _ _ (call (.builtin "BaseException.__getattribute__") [.ref x, .str "__class__" t]) _ _ _
  refine wpAny_call (codeAny_call_builtin PySem.F.excAttr_ValueError.ga.plain PySem.F.entry_bexc_ga ?_)
  refine @check_slot (model prog w) _ _ ⟨hp, g, d, t + 1, os⟩ "BaseException.__getattribute__" "BaseException" "__getattribute__" (.ref x) [.str "__class__" t] [] _ (by decide +kernel) (by decide +kernel) sub (PySem.F.args_bexc_ga (.ref x) (.str "__class__" t)) ?_
  unfold Builtin.«object.__getattribute__»
  refine wpAny_bind (wpAny_of_eq (a := ((Value.ref x : Value), [Value.str "__class__" t])) (by first | rfl | (simp only [slotArgs]; rfl)) ?_)
  refine wpAny_bind (wpAny_pure (wpAny_bind (L0.at (wpAny_bind (L3.at ?_)))))
  show wpAny _ _ (holding [Value.builtin "object.__class__"] (call (.builtin "getset_descriptor.__get__") [.builtin "object.__class__", .ref x, .ref D]) >>= ret) _ _ _
  refine wpAny_bind (wpAny_holding (wpAny_call (class_get (s := ⟨hp, g, d, t + 1, os⟩) (ox := ox) (od := od) X I c.hm ?_)))
  refine wpAny_pure ?_
  show wpAny _ _ (handedOut (.ref D)) _ _ _
  rw [handedOut_of (v := .ref D) rfl]
  first
    | exact wpAny_pure (wpAny_pure h)
    | exact wpAny_pure h
    | exact wpAny_pure (wpAny_bind (wpAny_pure (wpAny_pure h)))
theorem kitx_exk (c : ExcC K D) : KitX K (.ref x) (.ref D) (fun h => PySem.W.InstAt h x ox D od) where
  ty := fun _ _ _ I => I.type
  it := fun _ _ X _ => by
    obtain ⟨cdD, hcD, _⟩ := any_some c.hd
    unfold clsIn at hcD
    split at hcD
    · rename_i c' d' cd' sl' ho
      intro A' Q' E' s' k q
      unfold isType loadHead
      exact wpAny_bind (wpAny_loadPart (k _ _ (X _ _ ho)) (wpAny_pure q))
    · cases hcD
  ne := fun h tp dd its n sl X htp => by
    obtain ⟨cdD, hcD, _⟩ := any_some c.hd
    refine Bool.eq_false_iff.mpr fun q => ?_
    have e : D = tp := Value.ref.inj (beq_iff_eq.mp q)
    subst e
    unfold clsIn at hcD
    split at hcD
    · rename_i c' d' cd' sl' ho
      have z := (X _ _ ho).symm.trans htp
      cases z
    · cases hcD
  ca := fun X I k => cls_exc c X I k
end
/-- an exception of the class at D that is held as an object at a -/
def HeldX (D a : Addr) (H : Hp) : Prop := ∃ d, H a = some (exk (.ref D) d a) ∧ (d = none ∨ ∃ dd ws, d = some dd ∧ H dd = some (.xd ws))
theorem HeldX.inst {X : Cx} {pins : List (Addr × Obj)} {s : Shared} {sg : L2.St} {H : Hp} {D a : Addr} (I : Inv X pins sg H s) (h : HeldX D a H) : ∃ ox od, PySem.W.InstAt s.heap a ox D od := by
  obtain ⟨d, h1, h2⟩ := h
  have x : ObjOk X.prog X.w H s.heap a (.ext fun h => ∃ (oe : Obj) (vs : Array Value), h.get? a = some oe ∧ Zc (.ref D) d oe ∧ oe.data = .fields vs) := I.hok a _ h1
  obtain ⟨⟨oe, vs, e1, e2, e3⟩, _, _⟩ := x
  rcases h2 with rfl | ⟨dd, ws, rfl, h3⟩
  · exact ⟨oe, none, e1, e2.1, by unfold PySem.W.notCls; rw [e3], by rw [e2.2]; trivial⟩
  · obtain ⟨mA, hns, _⟩ : ObjOk X.prog X.w H s.heap dd (.xd ws) := I.hok dd _ h3
    obtain ⟨od, ho, hl⟩ := lookIn_ns hns
    exact ⟨oe, some od, e1, e2.1, by unfold PySem.W.notCls; rw [e3], by rw [e2.2]; exact ho⟩
/-- isinstance(e, c), e held, c a class or a tuple of such -/
def rIsX (K : PySem.W.Frag) : List V → Hp → VK → Prop := fun xs H Q => ∃ (a D : Addr) (c : V) (b : Bool), xs = [.ref a, c] ∧ HeldX D a H ∧ ExcC K D ∧
  ((∃ cv, (∀ u, RelV c u → u = cv) ∧ PySem.W.kitOne K (.ref D) cv = some b) ∨ (∃ p cs cvs, c = .ref p ∧ H p = some (.tup cs) ∧ (∀ us, Vals cs us → us = cvs) ∧ PySem.W.kitAny K (.ref D) cvs = some b)) ∧ Q (.bl b) H
theorem call_isX {X : Cx} : CallR X (.builtin "isinstance") (rIsX X.K) := by
  intro pins s sg H xs us Q I r h
  obtain ⟨a, D, c, b, rfl, hx, C, hc, q⟩ := h
  obtain ⟨ox, od, J⟩ := hx.inst I
  cases r with
  | cons rx rr =>
    cases rr with
    | cons rt rr =>
      cases rr
      cases rx
      rcases hc with ⟨cv, hcv, e⟩ | ⟨p, cs, cvs, rfl, hp, hcv, e⟩
      · have ec := hcv _ rt
        subst ec
        exact PySem.W.kia_one (kitx_exk C) I.kIn J e (fun z => nomatch z) fun tk => ⟨.bl b, H, I.kept (t' := tk) fun _ _ z => z, rfl, q⟩
      · cases rt
        obtain ⟨its2, r2, ⟨⟨cls, dd, data, sl⟩, e2, hcls, n2, hdata⟩, z2⟩ := I.tuple (a := p) (xs := cs) (.inl (.inl hp))
        simp only at hcls hdata
        subst hcls; subst hdata
        have ec := hcv _ r2
        subst ec
        exact PySem.W.kia_tup (kitx_exk C) I.kIn J e2 e (fun z => nomatch z) fun tk => ⟨.bl b, H, I.kept (t' := tk) fun _ _ z => z, rfl, q⟩
end D
namespace D
open PySem L2
/-! ### what was caught: isinstance, fields -/
def isX (t : List (Str × Bool)) (f : DE) : DE := fun env st => (f env st).bind fun u st1 => match u with
  | .ref n => match st1[n]? with
    | some (.ins c _) => match tabB t c with
      | some b => .ok (.bl b) st1
      | none => .bad
    | _ => .bad
  | _ => .bad
def attrX (cs : List Str) (n : Str) (f : DE) : DE := fun env st => (f env st).bind fun u st1 => match u with
  | .ref k => match st1[k]? with
    | some (.ins c fs) => if c ∈ cs then match fs.lookup n with
      | some v => .ok v st1
      | none => .bad else .bad
    | _ => .bad
  | _ => .bad
def tCs : List V → TA
  | [] => tNil
  | v :: vs => tCons (tC v) (tCs vs)
theorem tCs_of {Q : List V → Hp → Prop} {sg : L2.St} {H : Hp} : ∀ (vs : List V), Q vs H → tCs vs sg H Q
  | [], h => h
  | v :: vs, h => tCs_of (Q := fun xs H2 => Q (v :: xs) H2) vs h
section
variable {X : Cx} {xs : XS} {wx : WX} {pos : Pos}
theorem held {K : PySem.W.Frag} {G : Addr → Prop} {io : List Addr} {st : Store} {H : Hp} {n : Nat} {c : Str} {fs : List (Str × U)} {v : V} (ok : Ok K G io st H) (h : st[n]? = some (.ins c fs)) (r : Rep K (Wf G io) io H (.ref n) v) : ∃ a C d, v = .ref a ∧ clsAt K c = some C ∧ H a = some (exk (.ref C) d a) ∧ XD fs d H := by
  unfold Rep at r
  obtain ⟨a, e1, rfl⟩ := r
  obtain ⟨C, d, q1, q2, q3⟩ := ok.obs n _ a h e1
  exact ⟨a, C, d, rfl, q1, q2, q3⟩
theorem heldX_of {H : Hp} {C a : Addr} {d : Option Addr} {fs : List (Str × U)} (h : H a = some (exk (.ref C) d a)) (x : XD fs d H) : HeldX C a H := ⟨d, h, x.elim (fun z => .inl z.2) fun ⟨dd, ws, z1, z2, _⟩ => .inr ⟨dd, ws, z1, z2⟩⟩
theorem d_isX {t : List (Str × Bool)} {e c : Expr} {f : DE} {v : V} {cv : Value} {p : Pos} (he : PE X e (tD X.K xs wx f)) (hc : PE X c (tC v)) (hcv : ∀ u, RelV v u → u = cv) (ht : TabOk t fun k b => ∃ C, clsAt X.K k = some C ∧ ExcC X.K C ∧ PySem.W.kitOne X.K (.ref C) cv = some b)
    (hg : Gl X "isinstance") (hm : X.mg "isinstance" = none) (h1 : starEach [e, c] X.env = (false, eval e X.env) :: starEach [c] X.env := by rfl) (h2 : starEach [c] X.env = (false, eval c X.env) :: starEach [] X.env := by rfl) (hpl : (backTo pos (starEach [c] X.env)).any (·.1) = false := by rfl) :
    PE X (.Call (.Name "isinstance" p) [e, c] [] pos) (tD X.K xs wx (isX t f)) :=
  pe_imp (pe_callB call_isX hg hm PyProof.Rows.Boot.isinstance (pa_cons he (pa_cons hc pa_nil h2) h1) (by decide) (by decide) h1 hpl) fun sg H Q h => by
    obtain ⟨G, io, st, env, ok, er, w⟩ := h
    refine ⟨G, io, st, env, ok, er, w.bind.impR fun st1 io1 H1 u ok1 e1 w1 x rx => ?_⟩
    cases u with
    | ref n =>
      simp only at w1
      split at w1
      · rename_i k fs hk
        split at w1
        · rename_i b hb
          obtain ⟨a, C, d, rfl, q1, q2, q3⟩ := held ok1 hk rx
          obtain ⟨C', q4, q5, q6⟩ := ht _ _ hb
          rw [q1] at q4; cases q4
          exact ⟨a, C, v, b, rfl, heldX_of q2 q3, q5, .inl ⟨cv, hcv, q6⟩, w1.here ok1 _ (rBl b)⟩
        · exact w1.elim
      · exact w1.elim
    | _ => exact w1.elim
theorem d_isXT {t : List (Str × Bool)} {e : Expr} {es : List Expr} {x1} {f : DE} {vs : List V} {cvs : List Value} {p p' : Pos} (he : PE X e (tD X.K xs wx f)) (hc : PA X es (tCs vs)) (hz : vs.length ≤ sizeLine) (hcv : ∀ us, Vals vs us → us = cvs) (ht : TabOk t fun k b => ∃ C, clsAt X.K k = some C ∧ ExcC X.K C ∧ PySem.W.kitAny X.K (.ref C) cvs = some b)
    (hg : Gl X "isinstance") (hm : X.mg "isinstance" = none) (h1 : starEach [e, .Tuple es x1 p'] X.env = (false, eval e X.env) :: starEach [.Tuple es x1 p'] X.env := by rfl) (h2 : starEach [.Tuple es x1 p'] X.env = (false, eval (.Tuple es x1 p') X.env) :: starEach [] X.env := by rfl) (hpl : (backTo pos (starEach [.Tuple es x1 p'] X.env)).any (·.1) = false := by rfl) :
    PE X (.Call (.Name "isinstance" p) [e, .Tuple es x1 p'] [] pos) (tD X.K xs wx (isX t f)) :=
  pe_imp (pe_callB call_isX hg hm PyProof.Rows.Boot.isinstance (pa_cons he (pa_cons (pe_tup hc) pa_nil h2) h1) (by decide) (by decide) h1 hpl) fun sg H Q h => by
    obtain ⟨G, io, st, env, ok, er, w⟩ := h
    refine ⟨G, io, st, env, ok, er, w.bind.impR fun st1 io1 H1 u ok1 e1 w1 x rx => ?_⟩
    cases u with
    | ref n =>
      simp only at w1
      split at w1
      · rename_i k fs hk
        split at w1
        · rename_i b hb
          obtain ⟨a, C, d, rfl, q1, q2, q3⟩ := held ok1 hk rx
          obtain ⟨C', q4, q5, q6⟩ := ht _ _ hb
          rw [q1] at q4; cases q4
          refine tCs_of vs ⟨hz, fun q hq => ?_⟩
          have sm : Same H1 (upd H1 q (.tup vs)) := same_upd hq
          exact ⟨a, C, .ref q, b, rfl, heldX_of (sm _ _ q2) (q3.keep fun dd ws z => sm _ _ z), q5, .inr ⟨q, vs, cvs, rfl, upd_same, hcv, q6⟩, w1.hereS ok1 sm _ (rBl b)⟩
        · exact w1.elim
      · exact w1.elim
    | _ => exact w1.elim
theorem flat_of : ∀ {fs : List (Str × U)} {ws : List (Str × V)} {n : Str} {u : U}, fs.map (fun p => (p.1, flatE p.2)) = ws.map (fun p => (p.1, some p.2)) → fs.lookup n = some u → ∃ v, ws.lookup n = some v ∧ flatE u = some v
  | [], _, _, _, _, h => nomatch h
  | p :: fs, [], _, _, e, _ => nomatch e
  | (a, x) :: fs, (b, y) :: ws, n, u, e, h => by
    simp only [List.map_cons, List.cons.injEq, Prod.mk.injEq] at e
    obtain ⟨⟨rfl, e1⟩, e2⟩ := e
    rw [List.lookup_cons] at h ⊢
    split at h
    · cases h
      exact ⟨y, rfl, e1⟩
    · exact flat_of e2 h
theorem flat_rp {K : PySem.W.Frag} {W : Addr → Prop} {io : List Addr} {H : Hp} {u : U} {v : V} (h : flatE u = some v) : Rep K W io H u v := by
  cases u <;> simp only [flatE] at h <;> first | (cases h; unfold Rep; rfl) | cases h
theorem d_attrX {cs : List Str} {n : Str} {e : Expr} {f : DE} (he : PE X e (tD X.K xs wx f)) (ht : ∀ c ∈ cs, ∃ C, clsAt X.K c = some C ∧ XfC X.K C ∧ PySem.W.findIn X.K (.ref C) n = some none) (hb : attributeBase e n X.env (eval e X.env) = eval e X.env := by rfl) :
    PE X (.Attribute e n pos) (tD X.K xs wx (attrX cs n f)) := by
  refine ⟨fun pins s sg H Q I h => ?_⟩
  obtain ⟨G, io, st, env, ok, er, w⟩ := h
  refine attr_of hb (thn (he.run pins s sg H (fun x H1 => ∃ (a C dd : Addr) (ws : List (Str × V)) (v : V), x = .ref a ∧ H1 a = some (exk (.ref C) (some dd) a) ∧ H1 dd = some (.xd ws) ∧ ws.lookup n = some v ∧ XfC X.K C ∧ PySem.W.findIn X.K (.ref C) n = some none ∧ Q v H1) I ?_) fun u s1 hh => ?_)
  · refine ⟨G, io, st, env, ok, er, w.bind.impR fun st1 io1 H1 u ok1 e1 w1 x rx => ?_⟩
    cases u with
    | ref k =>
      simp only at w1
      split at w1
      · rename_i c fs hk
        split at w1
        · rename_i hc
          split at w1
          · rename_i v hv
            obtain ⟨a, C, d, rfl, q1, q2, q3⟩ := held ok1 hk rx
            obtain ⟨C', q4, q5, q6⟩ := ht c hc
            rw [q1] at q4; cases q4
            rcases q3 with ⟨rfl, _⟩ | ⟨dd, ws, rfl, q7, q8⟩
            · cases hv
            · obtain ⟨y, l1, l2⟩ := flat_of q8 hv
              exact ⟨a, C, dd, ws, y, rfl, q2, q7, l1, q5, q6, w1.here ok1 _ (flat_rp l2)⟩
          · exact w1.elim
        · exact w1.elim
      · exact w1.elim
    | _ => exact w1.elim
  · obtain ⟨x, H1, I1, rx, a, C, dd, ws, v, rfl, h1, h2, l, T, hno, q⟩ := hh
    obtain rfl : u = Value.ref a := rx
    have hx : ObjOk X.prog X.w H1 s1.heap a (.ext fun h => ∃ (oe : Obj) (vs : Array Value), h.get? a = some oe ∧ Zc (.ref C) (some dd) oe ∧ oe.data = .fields vs) := I1.hok a _ h1
    obtain ⟨⟨oe, vs, e1, e2, e3⟩, _, _⟩ := hx
    obtain ⟨mA, hns, hr⟩ : ObjOk X.prog X.w H1 s1.heap dd (.xd ws) := I1.hok dd _ h2
    obtain ⟨od, ho, hl⟩ := lookIn_ns hns
    obtain ⟨u, hu, ru⟩ := RelO.some_of (v := v) (o := mA n) (by rw [← l]; exact hr n)
    have J : PySem.W.InstAt s1.heap a oe C (some od) := ⟨e1, e2.1, by unfold PySem.W.notCls; rw [e3], by rw [e2.2]; exact ho⟩
    exact HandSPX.exc_get I1.kIn J T.ga T.gg T.exC (PySem.W.findObj_own T.hdC hno rfl (by rw [hl, hu])) (handed_of ru) ⟨v, H1, I1.tok _, ru, q⟩
end
/-! ### raise C(..) -/
/-- B.__init__(self, ..), B an own class over ValueError without own __init__ -/
theorem pe_baseI {X : Cx} {x : Str} {B : Addr} {e : Expr} {es : List Expr} {ta : TA} {p1 p2 pos : Pos} {pl : Sem Bool} (hg : Gl X x) (hm : X.mg x = some (.ref B)) (g1 : PySem.W.specialIn X.K (.ref B) "__getattribute__" = some (some (.builtin "type.__getattribute__"))) (g2 : PySem.W.typeIn X.K (.ref B) = some (.type "type")) (g3 : PySem.W.readsIn X.K B (.type "type") = true)
    (vV : PySem.W.findCls X.K (.ref B) (.type "type") "__init__" = some (.val (.builtin "ValueError.__init__"))) (ha : PA X (e :: es) ta)
    (hc : eval (.Call (.Attribute (.Name x p1) "__init__" p2) (e :: es) [] pos) X.env = (do
      let ov ← eval (.Name x p1) X.env
      standAt p2.atName
      let (f, first) ← holding [ov] (getMethod ov "__init__" pl)
      callWith pos f first (backTo pos (starEach (e :: es) X.env)) (backToKw pos (keywordEach [] X.env))) := by rfl) (hdb : (x == ("__debug__" : Str)) = false := by decide)
    (he : starEach (e :: es) X.env = (false, eval e X.env) :: starEach es X.env := by rfl) (hpl : (backTo pos (starEach es X.env)).any (·.1) = false := by rfl) :
    PE X (.Call (.Attribute (.Name x p1) "__init__" p2) (e :: es) [] pos) (tVeI X.K ta) := by
  refine ⟨fun pins s sg H Q I h => ?_⟩
  refine PySem.W.methodCall_KW (ld_glob I hg hm ?_ hdb) hc
  obtain ⟨m, fr⟩ := I.fr
  refine PySem.W.method_of_cls fr I.ok.mod.kin g1 (PySem.W.cls_val fr I.ok.mod.kin g2 g3 vV (by decide +kernel) ?_)
  show wpAny _ _ (callWith pos (Value.builtin "ValueError.__init__") [] (backTo pos (starEach (e :: es) X.env)) []) _ _ _
  refine PyProof.Rows.callWith_method1 (thn (ha.run pos pins _ sg H _ (I.tok _) h) fun us s1 ⟨vs, H1, I1, r1, a, C, ws, ev, hl, T, ea, q⟩ => ?_) he hpl
  subst ev
  cases r1 with
  | @cons _ u0 _ ur ra rw' =>
    obtain rfl : u0 = Value.ref a := ra
    have hlen : ur.length ≤ sizeLine := by
      rw [← Paired.length rw', sizeLine_eq]
      omega
    exact oinit_ok T I1 ea hlen fun s' J => ⟨.non, H1, J, rfl, q⟩
/-- what C's own __init__ promises: the fields ns are set, one behind the other -/
def spI (C : Addr) (ns : List Str) : Sp := fun vs H Q E => vs.length = ns.length + 1 ∧ ∃ a ws, vs = .ref a :: ws ∧ H a = some (exo a C none) ∧
  ∀ dx H2, H dx = none → H2 a = some (exo a C (some dx)) → H2 dx = some (exd dx (ns.zip ws).reverse) → (∀ b, b ≠ a → b ≠ dx → H2 b = H b) → Q .non H2
section
variable {X : Cx} {o : List V}
def nxE (Q : VK) : Ends := { nx := fun _ H' => Q .non H', rt := Q }
theorem init2_read {K : PySem.W.Frag} {C : Addr} {f1 f2 : Str} {N : List Str} {vs : List V} {H : Hp} {Q : VK} {E : XK} {m : Str} (T : OexC K C) (n1 : PySem.W.findIn K (.ref C) f1 = some none) (n2 : PySem.W.findIn K (.ref C) f2 = some none) (hN : N.length = 3) (h : spI C [f1, f2] vs H Q E) :
    tSeq (tDrop (tVeI K (tCons (tVar 0) (tCons (tC (.str m)) tNil)))) (tSeq (tOst K f1 (tVar 0) (tVar 1)) (tSeq (tOst K f2 (tVar 0) (tVar 2)) tNext)) { nx := fun _ H' => Q .non H', rt := Q } (start N vs) H := by
  obtain ⟨hl, a, ws, rfl, ha, q⟩ := h
  match ws, hl with
  | [p, r], _ =>
    have st : start N [V.ref a, p, r] = [some (.ref a), some p, some r] := by unfold L2.start; simp [hN]
    rw [st]
    refine ⟨.ref a, rfl, a, C, [.str m], rfl, by simp, T, ha, ?_⟩
    refine ⟨p, rfl, .ref a, rfl, a, C, rfl, T, n1, .inl ⟨ha, fun dx hd hda => ?_⟩⟩
    refine ⟨r, rfl, .ref a, rfl, a, C, rfl, T, n2, .inr ⟨dx, [(f1, p)], upd_same, by rw [upd_ne hda, upd_same], by simp, ?_⟩⟩
    refine q dx _ hd (by rw [upd_ne (Ne.symm hda), upd_same]) upd_same fun b h1 h2 => ?_
    rw [upd_ne h2, upd_ne h1, upd_ne h2]
theorem init1_read {K : PySem.W.Frag} {C : Addr} {f1 : Str} {N : List Str} {vs : List V} {H : Hp} {Q : VK} {E : XK} {m : Str} (T : OexC K C) (n1 : PySem.W.findIn K (.ref C) f1 = some none) (hN : N.length = 2) (h : spI C [f1] vs H Q E) :
    tSeq (tDrop (tVeI K (tCons (tVar 0) (tCons (tC (.str m)) tNil)))) (tSeq (tOst K f1 (tVar 0) (tVar 1)) tNext) { nx := fun _ H' => Q .non H', rt := Q } (start N vs) H := by
  obtain ⟨hl, a, ws, rfl, ha, q⟩ := h
  match ws, hl with
  | [p], _ =>
    have st : start N [V.ref a, p] = [some (.ref a), some p] := by unfold L2.start; simp [hN]
    rw [st]
    refine ⟨.ref a, rfl, a, C, [.str m], rfl, by simp, T, ha, ?_⟩
    refine ⟨p, rfl, .ref a, rfl, a, C, rfl, T, n1, .inl ⟨ha, fun dx hd hda => ?_⟩⟩
    refine q dx _ hd upd_same (by rw [upd_ne hda, upd_same]; rfl) fun b h1 h2 => ?_
    rw [upd_ne h1, upd_ne h2]
end
/-- an own exception class with fields ns -/
structure ExFn (P : Program) (w : World) (K : PySem.W.Frag) (mg : Str → Option Value) (base : Heap) (x : Str) (k : Nat) (ns : List Str) : Prop where
  ex : ∃ C fI fd ps, clsAt K x = some C ∧ mg x = some (.ref C) ∧ OexC K C ∧ PySem.W.findIn K (.ref C) "__init__" = some (some (.ref fI)) ∧ PySem.W.typeIn K (.ref fI) = some (.type "function") ∧ Binds K fd ps [] ∧ FnOk P w K mg base (L2.CX P w) k fI fd ps (spI C ns)
def sRaise (c : Str) (ns : List Str) (fa : DA) : DS := fun env st => (fa env st).out env fun us st1 => if us.length = ns.length ∧ us.all flatU = true then .ex c (ns.zip us).reverse env st1 else .bad
theorem flat_zip {K : PySem.W.Frag} {W : Addr → Prop} {io : List Addr} {H : Hp} : ∀ (ns : List Str) {us : List U} {vs : List V}, Reps K W io H us vs → us.all flatU = true → (ns.zip us).map (fun p => (p.1, flatE p.2)) = (ns.zip vs).map (fun p => (p.1, some p.2))
  | [], us, vs, _, _ => by simp
  | n :: ns, [], vs, r, _ => by rw [r.isNil]; rfl
  | n :: ns, u :: us, vs, r, h => by
    obtain ⟨v, vr, rfl, r1, r2⟩ := r.uncons
    rw [List.all_cons, Bool.and_eq_true] at h
    rw [List.zip_cons_cons, List.zip_cons_cons, List.map_cons, List.map_cons, flat_zip ns r2 h.2]
    congr 1
    have e : flatE u = some v := by
      cases u <;> first | (unfold Rep at r1; subst r1; rfl) | (cases h.1)
    rw [e]
theorem s_raise {X : Cx} {wx : WX} {x : Str} {k : Nat} {ns : List Str} {e : Expr} {es : List Expr} {fa : DA} {p pos pos' : Pos} (F : ExFn X.prog X.w X.K X.mg X.base x k ns) (hc : X.calm = true) (tk : Takes X wx) (hr : Room (k + 1) X.A) (hg : Gl X x) (hns : ns.length ≤ 1000) (ha : PA X (e :: es) (tDA X.K (XSd X.K) wx fa))
    (hdb : (x == ("__debug__" : Str)) = false := by decide) (he : starEach (e :: es) X.env = (false, eval e X.env) :: starEach es X.env := by rfl) (hpl : (backTo pos (starEach es X.env)).any (·.1) = false := by rfl) :
    PS X (.Raise (some (.Call (.Name x p) (e :: es) [] pos)) none pos') (tDS X.K (XSd X.K) wx (sRaise x ns fa)) := by
  obtain ⟨C, fI, fd, ps, c1, c2, c3, c4, c5, c6, c7⟩ := F.ex
  refine ps_imp (ps_raise hc tk (pmk_oex (dvs := []) c3 c4 c5 c7 hr c6 .nil (fun _ _ _ _ _ _ _ z => (cx_no z).elim) hg c2 ha hdb he hpl)) fun D sg H h => ?_
  obtain ⟨F, io, st, env, fr, w⟩ := h
  refine ⟨Gs F env sg, io, st, env, fr.ok, fr.er, (WantsS.expr fr w).impR fun st1 io1 H1 us ok1 e1 q vs rvs => ?_⟩
  have q2 := q.2
  split at q2
  · rename_i hl
    have hlen : vs.length = ns.length := by rw [← rvs.length]; exact hl.1
    refine ⟨by omega, fun a na => ⟨by simp; omega, a, vs, by simp, upd_same, fun dx H2 h1 h2 h3 h4 => ⟨rfl, dx, _, h2, h3, ?_, ?_⟩⟩⟩
    · by_cases e : dx = a
      · subst e; exact na
      · rw [upd_ne e] at h1; exact h1
    · have hda : dx ≠ a := fun e => by subst e; rw [upd_same] at h1; cases h1
      have hn : H1 dx = none := by rw [upd_ne hda] at h1; exact h1
      have eH : upd (del H2 a) dx (.xd (ns.zip vs).reverse) = upd H1 dx (.xd (ns.zip vs).reverse) := by
        funext b
        by_cases hb : b = dx
        · subst hb; rw [upd_same, upd_same]
        · rw [upd_ne hb, upd_ne hb]
          by_cases hba : b = a
          · subst hba; rw [del_same, na]
          · rw [del_ne hba, h4 b hba hb, upd_ne hba]
      rw [eH]
      have sm : Same H1 (upd H1 dx (.xd (ns.zip vs).reverse)) := same_upd hn
      refine q2 io1 sg _ (q.1.ext (q.1.ok.same sm) (Ext.same sm)) ((Ext.same sm).o _) _ _ ⟨C, c1, rfl, .inr ⟨dx, _, rfl, upd_same, ?_⟩⟩
      rw [List.map_reverse, List.map_reverse, flat_zip ns rvs hl.2]
  · exact q2.elim
end D
namespace D
open PySem L2
/-- what is known of a class that is named -/
structure ClsF (K : PySem.W.Frag) (mg : Str → Option Value) (x : Str) (C : Addr) : Prop where
  mg : mg x = some (.ref C)
  at_ : clsAt K x = some C
  hd : PySem.W.hasDictIn K C = true
  ty : PySem.W.typeIn K (.ref C) = some (.type "type")
  ex : PySem.W.subIn K (.ref C) (.type "BaseException") = some true
theorem clsF_mk {K : PySem.W.Frag} {mg : Str → Option Value} {h : Heap} {x : Str} {C : Addr} (X : K.In h) (G : h.Ns mainGlobals mg) (a : PySem.W.nsIn K mainGlobals x = some (some (.ref C))) (hd : PySem.W.hasDictIn K C = true) (ty : PySem.W.typeIn K (.ref C) = some (.type "type")) (ex : PySem.W.subIn K (.ref C) (.type "BaseException") = some true) : ClsF K mg x C :=
  ⟨PySem.W.mg_of X G a, clsAt_of a, hd, ty, ex⟩
section
variable {K : PySem.W.Frag} {C B : Addr} {b : Bool}
theorem exm_cls (h1 : PySem.W.subIn K (.ref B) (.type "BaseException") = some true) (hd : PySem.W.hasDictIn K B = true) (ht : PySem.W.typeIn K (.ref B) = some (.type "type")) (h4 : PySem.W.subIn K (.ref C) (.ref B) = some b) : PySem.W.exmOne K (.ref C) (.ref B) = some b := PySem.W.exm_ref h1 hd ht h4
theorem kit_self : PySem.W.kitOne K (.ref C) (.ref C) = some true := by
  unfold PySem.W.kitOne
  rw [if_pos (by simp)]
theorem kit_ne (hn : (C == B) = false) (hd : PySem.W.hasDictIn K B = true) (ht : PySem.W.typeIn K (.ref B) = some (.type "type")) (h4 : PySem.W.subIn K (.ref C) (.ref B) = some b) : PySem.W.kitOne K (.ref C) (.ref B) = some b := by
  unfold PySem.W.kitOne
  rw [if_neg (fun z => by
    have e : C = B := Value.ref.inj (beq_iff_eq.mp z)
    subst e
    simp at hn)]
  obtain ⟨cd, hc, _⟩ := PySem.W.any_some hd
  show (if ((PySem.W.clsIn K B).isSome && PySem.W.typeIn K (.ref B) == some (.type "type")) = true then PySem.W.subIn K (.ref C) (.ref B) else none) = some b
  rw [if_pos (by rw [hc, ht]; rfl)]
  exact h4
theorem kit_type {T : String} (hk : PySem.W.kitMeta T = true) (h4 : PySem.W.subIn K (.ref C) (.type T) = some b) : PySem.W.kitOne K (.ref C) (.type T) = some b := by
  unfold PySem.W.kitOne
  rw [if_neg (fun z => by cases beq_iff_eq.mp z)]
  show (if PySem.W.kitMeta T = true then PySem.W.subIn K (.ref C) (.type T) else none) = some b
  rw [if_pos hk]
  exact h4
theorem kany_nil {t : Value} : PySem.W.kitAny K t [] = some false := rfl
theorem kany_f {t c : Value} {r : List Value} (h : PySem.W.kitOne K t c = some false) (q : PySem.W.kitAny K t r = some b) : PySem.W.kitAny K t (c :: r) = some b := by
  unfold PySem.W.kitAny
  rw [h]
  exact q
theorem kany_t {t c : Value} {r : List Value} (h : PySem.W.kitOne K t c = some true) : PySem.W.kitAny K t (c :: r) = some true := by
  unfold PySem.W.kitAny
  rw [h]
theorem vals_refs : ∀ (l : List Addr) (us : List Value), Vals (l.map V.ref) us → us = l.map Value.ref
  | [], us, h => by cases h; rfl
  | a :: l, us, h => by
    cases h with
    | cons r t => rw [vals_refs l _ t, (show _ = Value.ref a from r)]; rfl
theorem all1 {α : Type} {P : α → Prop} {a : α} (h : P a) : ∀ x ∈ [a], P x := fun x hx => by rw [List.mem_singleton] at hx; subst hx; exact h
theorem xfC_of (e : ExcC K C) : XfC K C := ⟨e.hg, e.hk, e.hs, e.hd⟩
theorem oexC_mk {nm q : Str} {N : Addr} {bs bm : List Value} {sn : List Str} {sub : List Value} {ab : Bool} {col : Option Bool} {dd : Option Addr} {k0 k1 k2 k3 k5 : Option Value} (l : K.lookup C = some (PySem.excClassObj nm q C N bs bm true sn sub ab col dd k0 k1 k2 k3 k5 "ValueError.__new__")) (r : PySem.HandSPX.refsVE bm = true)
    (sa : PySem.W.findIn K (.ref C) "__setattr__" = some (some (.builtin "object.__setattr__"))) (ex : PySem.W.subIn K (.ref C) (.type "BaseException") = some true) (ty : PySem.W.typeIn K (.ref C) = some (.type "type")) (kC : PySem.W.keepIn K (.ref C) = true) : OexC K C :=
  ⟨⟨nm, q, N, bs, bm, sn, sub, ab, col, dd, k0, k1, k2, k3, k5, l, r⟩, sa, ex, ty, kC⟩
end
theorem kitMeta_VE : PySem.W.kitMeta "ValueError" = true := by decide +kernel
section
variable {X : Cx} {pos : Pos}
theorem pe_tyC {x : Str} {n : String} (hg : Gl X x) (hm : X.mg x = none) (hv : bootBuiltins x = some (.type n)) (hn : x ≠ "__name__" := by decide) (hd : (x == ("__debug__" : Str)) = false := by decide) : PE X (.Name x pos) (tC (.ty n)) :=
  ⟨fun pins s sg H Q I h => ld_blt I hg hm hv ⟨.ty n, H, I, rfl, h⟩ hn hd⟩
end
abbrev spX (K : PySem.W.Frag) (n : Nat) (g : List U → Store → Rs U) : Sp := spD K (XSd K) n g
/-- a base's name in an own __init__ -/
structure BaseF (K : PySem.W.Frag) (B : Addr) : Prop where
  g1 : PySem.W.specialIn K (.ref B) "__getattribute__" = some (some (.builtin "type.__getattribute__"))
  g3 : PySem.W.readsIn K B (.type "type") = true
  vV : PySem.W.findCls K (.ref B) (.type "type") "__init__" = some (.val (.builtin "ValueError.__init__"))
theorem exfn_mk {P : Program} {w : World} {K : PySem.W.Frag} {mg : Str → Option Value} {base : Heap} {x qual : Str} {s : Stmt} {C fI : Addr} {ns : List Str} {od an : Option Addr} {sl : Array (Option Value)} {oc kV dc pm cd ct : Value} {ps : List Str} (c : ClsF K mg x C) (T : OexC K C)
    (ai : PySem.W.findIn K (.ref C) "__init__" = some (some (.ref fI))) (ti : PySem.W.typeIn K (.ref fI) = some (.type "function")) (li : K.lookup fI = some ⟨oc, od, .func (PySem.W.fnOf "__init__" qual (defArgs s) (defBody s) (defScope s) .none kV dc pm an cd ct), sl⟩) (ci : PySem.W.codeIn K cd qual = true) (ki : PySem.W.keepIn K (.ref fI) = true)
    (hb : ∀ (us : List Value), us.length = ps.length → bindArgs (PySem.W.fnOf "__init__" qual (defArgs s) (defBody s) (defScope s) .none kV dc pm an cd ct) ⟨us, []⟩ = Pure.pure (ps.zip us))
    (B : ∀ f fd, Fun K "__init__" qual s f fd → FnOk P w K mg base (L2.CX P w) 1 f fd ps (spI C ns)) : ExFn P w K mg base x 1 ns := by
  have F := fun_mk (st := s) li ci ki
  exact ⟨C, fI, _, ps, c.at_, c.mg, T, ai, ti, .all hb, B fI _ F⟩
@[simp] theorem sTryK_ap (t : List (Str × Bool)) (i j : Nat) (b : DS) (env : Env) (st : Store) : sTryK t i j b env st = match b env st with
  | .ex c fs env' st' => match tabB t c with
    | some true => .nx (((env'.set i (.val (.ref st'.length))).set j (.val (.ref st'.length))).set i .un) (st' ++ [.ins c fs])
    | some false => .ex c fs env' st'
    | none => .bad
  | o => o := (rfl)
@[simp] theorem isX_ap (t : List (Str × Bool)) (f : DE) (env : Env) (st : Store) : isX t f env st = (f env st).bind fun u st1 => match u with
  | .ref n => match st1[n]? with
    | some (.ins c _) => match tabB t c with
      | some b => .ok (.bl b) st1
      | none => .bad
    | _ => .bad
  | _ => .bad := (rfl)
@[simp] theorem attrX_ap (cs : List Str) (n : Str) (f : DE) (env : Env) (st : Store) : attrX cs n f env st = (f env st).bind fun u st1 => match u with
  | .ref k => match st1[k]? with
    | some (.ins c fs) => if c ∈ cs then match fs.lookup n with
      | some v => .ok v st1
      | none => .bad else .bad
    | _ => .bad
  | _ => .bad := (rfl)
@[simp] theorem sRaise_ap (c : Str) (ns : List Str) (fa : DA) (env : Env) (st : Store) : sRaise c ns fa env st = (fa env st).out env fun us st1 => if us.length = ns.length ∧ us.all flatU = true then .ex c (ns.zip us).reverse env st1 else .bad := (rfl)
end D
namespace D
open PySem L2
/-! ### raise of a class without own __init__ -/
def sRaise0 (c : Str) : DS := fun env st => .ex c [] env st
theorem s_raise0 {X : Cx} {wx : WX} {x : Str} {C : Addr} {m : Str} {j} {p p2 pos pos' : Pos} {bmB : List Value} {B newId initId : String} (F : ExcBaseFacts B newId initId bmB) (q : PySem.W.excIn X.K C bmB newId = true) (c : ClsF X.K X.mg x C) (kC : PySem.W.keepIn X.K (.ref C) = true) (hc : X.calm = true) (tk : Takes X wx) (hg : Gl X x)
    (hdb : (x == ("__debug__" : Str)) = false := by decide) :
    PS X (.Raise (some (.Call (.Name x p) [.Constant (.str m) j p2] [] pos)) none pos') (tDS X.K (XSd X.K) wx (sRaise0 x)) :=
  ps_imp (ps_raise hc tk (pmk_own F q c.mg kC (raises_own c.ex c.ty) hg hdb)) fun D sg H h => by
    obtain ⟨F, io, st, env, fr, w⟩ := h
    exact w io sg H fr (ExtO.refl _ _ _) _ _ ⟨C, c.at_, rfl, .inl ⟨rfl, rfl⟩⟩
@[simp] theorem sRaise0_ap (c : Str) (env : Env) (st : Store) : sRaise0 c env st = .ex c [] env st := (rfl)
end D
namespace D
open PySem L2
/-! ### a slice of a list, as a list of the frame's own -/
def cut3 (u : U) (lo hi : Option Int) : Option (List U) := match u with
  | .lst us => some (cutL us lo hi)
  | .scr ns => some ((cutL ns lo hi).map U.int)
  | _ => none
def slL (f : DE) (a b : DO) : DL := fun env st => (f env st).bind fun u st1 => (a env st1).bind fun l st2 => (b env st2).bind fun h st3 => Rs.of (cut3 u l h) st3
section
variable {X : Cx} {xs : XS} {wx : WX} {pos : Pos}
theorem l_slice {e : Expr} {lo hi : Option Expr} {p2 : Pos} {f : DE} {a b : DO} (he : PE X e (tD X.K xs wx f)) (hl : PO X lo (tDO X.K xs wx a)) (hu : PO X hi (tDO X.K xs wx b)) : PE X (.Subscript e (.Slice lo hi none p2) pos) (tDL X.K xs wx (slL f a b)) :=
  pe_imp (pe_slice sl_list he hl hu) fun sg H Q h => by
    obtain ⟨G, io, st, env, ok, er, w⟩ := h
    refine ⟨G, io, st, env, ok, er, w.bind.impR fun st1 io1 H1 u ok1 e1 w1 v rv => ?_⟩
    refine ⟨G, io1, st1, env, ok1, er.ext ok.dj e1, w1.bind.impR fun st2 io2 H2 l ok2 e2 w2 => ?_⟩
    refine ⟨G, io2, st2, env, ok2, (er.ext ok.dj e1).ext ok1.dj e2, w2.bind.impR fun st3 io3 H3 h ok3 e3 w3 => ?_⟩
    obtain ⟨r, hr, w4⟩ := w3.pure
    have r1 := (rv.ext e2).ext e3
    unfold cut3 at hr
    split at hr
    · cases hr
      obtain ⟨a, vs, rfl, l, rs⟩ := r1.lst'
      refine ⟨a, vs, rfl, l.sq, fun p hp => w4.here ok3 _ p ?_ hp⟩
      unfold cutL cutV
      rw [rs.length]
      exact (rs.drop _).take _
    · cases hr
      unfold Rep at r1
      obtain ⟨a, rfl, l⟩ := r1
      refine ⟨a, _, rfl, l.sq, fun p hp => w4.here ok3 _ p ?_ hp⟩
      unfold cutL cutV
      rw [List.length_map, List.map_take, List.map_drop]
      exact ((Reps.ints _).drop _).take _
    · cases hr
end
@[simp] theorem slL_ap (f : DE) (a b : DO) (env : Env) (st : Store) : slL f a b env st = (f env st).bind fun u st1 => (a env st1).bind fun l st2 => (b env st2).bind fun h st3 => Rs.of (cut3 u l h) st3 := (rfl)
@[simp] theorem cut3_lst (us : List U) (lo hi : Option Int) : cut3 (.lst us) lo hi = some (cutL us lo hi) := (rfl)
@[simp] theorem cut3_scr (us : List Int) (lo hi : Option Int) : cut3 (.scr us) lo hi = some ((cutL us lo hi).map U.int) := (rfl)
end D
namespace D
open PySem L2
/-! ### lists of the store -/
section
variable {K : PySem.W.Frag} {F G : Addr → Prop} {io : List Addr} {st : Store} {env : Env} {sg : L2.St} {H : Hp}
theorem Ok.alloc (ok : Ok K G io st H) {a : Addr} {o : HO} {ob : Ob} (na : H a = none) (hx : NX o) (new : ObRep K (Wf G (io ++ [a])) (io ++ [a]) (upd H a o) a ob) :
    Ok K G (io ++ [a]) (st ++ [ob]) (upd H a o) ∧ Ext io H (io ++ [a]) (upd H a o) := by
  have nW : ¬ Wf G io a := ok.fresh na
  have s : Same H (upd H a o) := same_upd na
  have ex : Ext io H (io ++ [a]) (upd H a o) := ⟨⟨[a], rfl, fun b hb => by rw [List.mem_singleton] at hb; rw [hb]; exact na⟩, fun b u _ h => s b u h, fun b u h => ⟨u, s b u h⟩⟩
  refine ⟨?_, ex⟩
  refine ⟨?_, fun b hb z => ?_, fun b hb => ?_, by simp [ok.len], fun n ob' b e1 e2 => ?_⟩
  · rw [List.nodup_append]
    refine ⟨ok.nd, by simp, fun x hx y hy e => ?_⟩
    rw [List.mem_singleton] at hy
    subst hy; subst e
    exact nW (.inr hx)
  · rcases List.mem_append.mp hb with h | h
    · exact ok.dj b h z
    · rw [List.mem_singleton] at h; subst h
      exact nW (.inl z)
  · by_cases e : b = a
    · subst e; exact ⟨o, upd_same, hx⟩
    · have hb' : Wf G io b := hb.imp id fun z => by
        rcases List.mem_append.mp z with h | h
        · exact h
        · exact (e (List.mem_singleton.mp h)).elim
      obtain ⟨u, q, x⟩ := ok.trk b hb'
      exact ⟨u, s b u q, x⟩
  · by_cases hn : n < io.length
    · rw [List.getElem?_append_left hn] at e2
      rw [List.getElem?_append_left (by rw [ok.len]; exact hn)] at e1
      exact (ok.obs n ob' b e1 e2).mono ex.mono (fun u q => s b u q) fun dd ws q => s _ _ q
    · rw [List.getElem?_append_right (Nat.le_of_not_lt hn)] at e2
      rw [List.getElem?_append_right (by rw [ok.len]; exact Nat.le_of_not_lt hn)] at e1
      rw [ok.len] at e1
      have h0 : n - io.length = 0 := by
        cases h : n - io.length with
        | zero => rfl
        | succ k => rw [h] at e2; simp at e2
      rw [h0] at e1 e2
      simp only [List.getElem?_cons_zero, Option.some.injEq] at e1 e2
      subst e1; subst e2
      exact new
/-- a list of the store turns -/
theorem Fr.turnRef (f : Fr K F io st env sg H) {n : Nat} {us us' : List U} {vs' : List V} {a : Addr} (h1 : st[n]? = some (.lst us)) (h2 : io[n]? = some a) (r : Reps K (Wf (Gs F env sg) io) io H us' vs') :
    Fr K F io (st.set n (.lst us')) env sg (upd H a (.lst vs')) ∧ ExtO io H (Ow env sg) io (upd H a (.lst vs')) (Ow env sg) := by
  have ha : a ∈ io := List.mem_of_getElem? h2
  have hn : n < st.length := (List.getElem?_eq_some_iff.mp h1).1
  have keep : ∀ b o, b ≠ a → H b = some o → (upd H a (.lst vs')) b = some o := fun b o q h => by rw [upd_ne q]; exact h
  have ex : ExtO io H (Ow env sg) io (upd H a (.lst vs')) (Ow env sg) := ⟨⟨[], by simp, fun _ h => nomatch h⟩, fun b o q _ h => keep b o (fun e => q (e ▸ ha)) h, fun b o h => by
    by_cases e : b = a
    · subst e; exact ⟨_, upd_same⟩
    · exact ⟨o, keep b o e h⟩, fun b h => .inl h⟩
  have m := ex.mono (F := F)
  have nG : ∀ b, Gs F env sg b → b ≠ a := fun b hb e => f.ok.dj a ha (e ▸ hb)
  have nxa : ∀ (dd : Addr) (ws : List (Str × V)), H dd = some (.xd ws) → dd ≠ a := fun dd ws z e => by
    subst e
    obtain ⟨o, e1, x⟩ := f.ok.trk dd (.inr ha)
    rw [z] at e1; cases e1; exact x ws rfl
  refine ⟨⟨⟨f.ok.nd, f.ok.dj, fun b h => ?_, by simp [f.ok.len], fun k ob b e1 e2 => ?_⟩, ⟨f.er.len, fun j sl o g1 g2 => ?_⟩, f.nF, f.dd⟩, ex⟩
  · obtain ⟨o, e, x⟩ := f.ok.trk b h
    by_cases hb : b = a
    · subst hb; exact ⟨_, upd_same, nx_lst⟩
    · exact ⟨o, keep b o hb e, x⟩
  · by_cases hk : n = k
    · subst hk
      rw [List.getElem?_set_self hn] at e1
      rw [h2] at e2
      cases e1; cases e2
      exact ⟨vs', upd_same, r.mono m⟩
    · rw [List.getElem?_set_ne hk] at e1
      have nb : b ≠ a := fun e => by
        subst e
        exact hk ((List.getElem?_inj (List.getElem?_eq_some_iff.mp h2).1 f.ok.nd).mp (h2.trans e2.symm))
      exact (f.ok.obs k ob b e1 e2).mono m (fun u q => keep b u nb q) fun dd ws q => keep dd _ (nxa dd ws q) q
  · have q := f.er.sl j sl o g1 g2
    cases sl with
    | un => trivial
    | val u' => obtain ⟨v', q1, q2⟩ := q; exact ⟨v', q1, q2.mono m⟩
    | own w =>
      obtain ⟨b, vs1, q1, q2, q3, q4⟩ := q
      exact ⟨b, vs1, q1, q2, keep _ _ (nG b q2) q3, q4.mono m⟩
end
/-- a new list, of the store -/
def refL (f : DL) : DE := fun env st => (f env st).bind fun us st1 => .ok (.ref st1.length) (st1 ++ [.lst us])
def ixR (f g : DE) : DE := fun env st => (f env st).bind fun u st1 => (g env st1).bind fun v st2 => match u, v with
  | .ref n, .int i => match st2[n]? with
    | some (.lst us) => Rs.of (atI us i) st2
    | _ => .bad
  | _, _ => .bad
def sIxR (f g e : DE) : DS := fun env st => (e env st).out env fun v st1 => (f env st1).out env fun u st2 => (g env st2).out env fun k st3 => match u, k with
  | .ref n, .int i => match st3[n]? with
    | some (.lst us) => match ixN us.length i with
      | some j => .nx env (st3.set n (.lst (us.set j v)))
      | none => .bad
    | _ => .bad
  | _, _ => .bad
theorem Reps.set : ∀ {K : PySem.W.Frag} {W : Addr → Prop} {io : List Addr} {H : Hp} {us : List U} {vs : List V} {u : U} {v : V} (j : Nat), Reps K W io H us vs → Rep K W io H u v → Reps K W io H (us.set j u) (vs.set j v)
  | _, _, _, _, [], vs, u, v, j, h, r => by rw [h.isNil]; simpa using Reps.nil
  | _, _, _, _, w :: us, vs, u, v, 0, h, r => by
    obtain ⟨x, t, rfl, h1, h2⟩ := h.uncons
    exact .cons r h2
  | _, _, _, _, w :: us, vs, u, v, j + 1, h, r => by
    obtain ⟨x, t, rfl, h1, h2⟩ := h.uncons
    exact .cons h1 (Reps.set j h2 r)
theorem Reps.atI' {K : PySem.W.Frag} {W : Addr → Prop} {io : List Addr} {H : Hp} {us : List U} {vs : List V} {i : Int} {u : U} (h : Reps K W io H us vs) (e : atI us i = some u) : ∃ v, atI vs i = some v ∧ Rep K W io H u v := by
  unfold atI at e ⊢
  rw [← h.length]
  cases q : ixN us.length i with
  | none => rw [q] at e; cases e
  | some j =>
    rw [q] at e
    exact h.get e
theorem ref_list {K : PySem.W.Frag} {G : Addr → Prop} {io : List Addr} {st : Store} {H : Hp} {n : Nat} {us : List U} {v : V} (ok : Ok K G io st H) (h : st[n]? = some (.lst us)) (r : Rep K (Wf G io) io H (.ref n) v) : ∃ a vs, v = .ref a ∧ io[n]? = some a ∧ H a = some (.lst vs) ∧ Reps K (Wf G io) io H us vs := by
  unfold Rep at r
  obtain ⟨a, e1, rfl⟩ := r
  obtain ⟨vs, q1, q2⟩ := ok.obs n _ a h e1
  exact ⟨a, vs, rfl, e1, q1, q2⟩
section
variable {X : Cx} {xs : XS} {wx : WX} {pos : Pos}
theorem d_refL {e : Expr} {f : DL} (h : PE X e (tDL X.K xs wx f)) : PE X e (tD X.K xs wx (refL f)) := pe_imp h fun sg H Q q => by
  obtain ⟨G, io, st, env, ok, er, w⟩ := q
  refine ⟨G, io, st, env, ok, er, w.bind.impR fun st1 io1 H1 us ok1 e1 w1 vs a rvs na => ?_⟩
  have sm : Same H1 (upd H1 a (.lst vs)) := same_upd na
  have m : Mono G io1 H1 G (io1 ++ [a]) (upd H1 a (.lst vs)) := ⟨⟨[a], rfl⟩, fun b o n h => ⟨sm b o h, fun z => z.elim (fun y => n (.inl y)) fun y => by
    rcases List.mem_append.mp y with y | y
    · exact n (.inr y)
    · rw [List.mem_singleton] at y
      subst y
      rw [na] at h; cases h⟩⟩
  obtain ⟨ok2, e2⟩ := ok1.alloc (o := .lst vs) (ob := .lst us) na nx_lst ⟨vs, upd_same, rvs.mono m⟩
  refine w1 (io1 ++ [a]) _ ok2 e2 (.ref a) ?_
  unfold Rep
  refine ⟨a, ?_, rfl⟩
  rw [ok1.len, List.getElem?_append_right (Nat.le_refl _)]
  simp
theorem d_ixR {a b : Expr} {f g : DE} (ha : PE X a (tD X.K xs wx f)) (hb : PE X b (tD X.K xs wx g)) (hs : PlainIx b) : PE X (.Subscript a b pos) (tD X.K xs wx (ixR f g)) := pe_imp (pe_ix ix_list ha hb hs) fun sg H Q h => by
  obtain ⟨G, io, st, env, ok, er, w⟩ := h
  refine ⟨G, io, st, env, ok, er, w.bind.impR fun st1 io1 H1 u ok1 e1 w1 v rv => ?_⟩
  refine ⟨G, io1, st1, env, ok1, er.ext ok.dj e1, w1.bind.impR fun st2 io2 H2 u2 ok2 e2 w2 v2 rv2 => ?_⟩
  split at w2
  · rename_i n i
    split at w2
    · rename_i us hu
      obtain ⟨w', hw, w3⟩ := w2.pure
      obtain ⟨a, vs, rfl, q1, q2, q3⟩ := ref_list ok2 hu (rv.ext e2)
      have e : v2 = .int i := by unfold Rep at rv2; exact rv2
      subst e
      obtain ⟨y, hy, ry⟩ := q3.atI' hw
      exact ⟨a, vs, i, y, rfl, rfl, .inl (.inl q2), hy, w3.here ok2 y ry⟩
    · exact w2.elim
  · exact w2.elim
theorem s_ixR {o i e : Expr} {f g h : DE} {pos' : Pos} (ho : PE X o (tD X.K xs wx f)) (hi : PE X i (tD X.K xs wx g)) (he : PE X e (tD X.K xs wx h)) (hs : swapsWithSole [.Subscript o i pos'] e pos.line X.env = Pure.pure false := by rfl) (hw : swappedStores [.Subscript o i pos'] e X.env = Pure.pure none := by rfl)
    (h1 : (assignEach [.Subscript o i pos'] X.env).map (·.2) = [assign (.Subscript o i pos') X.env] := by rfl)
    (ha : ∀ v, assign (.Subscript o i pos') X.env v = (do
      let ov ← holding [v] (eval o X.env)
      let iv ← holding [v, ov] (eval i X.env)
      standAt pos'
      holding [v, ov, iv] (setItem ov iv v)
      release [v, ov, iv] []) := by intro _; rfl) : PS X (.Assign [.Subscript o i pos'] e pos) (tDS X.K xs wx (sIxR f g h)) :=
  ps_imp (ps_asg he (pg_sub ho hi set_list ha) hs hw h1) fun D sg H q => by
    obtain ⟨F, io, st, env, fr, w⟩ := q
    refine ⟨Gs F env sg, io, st, env, fr.ok, fr.er, (WantsS.expr fr w).impR fun st1 io1 H1 v ok1 e1 z x rx => ?_⟩
    refine ⟨Gs F env sg, io1, st1, env, z.1.ok, z.1.er, (WantsS.expr z.1 z.2).impR fun st2 io2 H2 u ok2 e2 z2 y ry => ?_⟩
    refine ⟨Gs F env sg, io2, st2, env, z2.1.ok, z2.1.er, (WantsS.expr z2.1 z2.2).impR fun st3 io3 H3 k ok3 e3 z3 t rt => ?_⟩
    have z4 := z3.2
    split at z4
    · rename_i n i
      split at z4
      · rename_i us hu
        split at z4
        · rename_i j hj
          obtain ⟨a, vs, rfl, q1, q2, q3⟩ := ref_list ok3 hu (ry.ext e3)
          have et : t = .int i := by unfold Rep at rt; exact rt
          subst et
          refine ⟨a, vs, i, j, rfl, rfl, q2, by rw [← q3.length]; exact hj, ?_⟩
          obtain ⟨f4, e4⟩ := z3.1.turnRef hu q1 (q3.set j ((rx.ext e2).ext e3))
          exact z4 _ _ _ f4 e4
        · exact z4.elim
      · exact z4.elim
    · exact z4.elim
end
@[simp] theorem refL_ap (f : DL) (env : Env) (st : Store) : refL f env st = (f env st).bind fun us st1 => .ok (.ref st1.length) (st1 ++ [.lst us]) := (rfl)
@[simp] theorem ixR_ap (f g : DE) (env : Env) (st : Store) : ixR f g env st = (f env st).bind fun u st1 => (g env st1).bind fun v st2 => match u, v with
  | .ref n, .int i => match st2[n]? with
    | some (.lst us) => Rs.of (atI us i) st2
    | _ => .bad
  | _, _ => .bad := (rfl)
@[simp] theorem sIxR_ap (f g e : DE) (env : Env) (st : Store) : sIxR f g e env st = (e env st).out env fun v st1 => (f env st1).out env fun u st2 => (g env st2).out env fun k st3 => match u, k with
  | .ref n, .int i => match st3[n]? with
    | some (.lst us) => match ixN us.length i with
      | some j => .nx env (st3.set n (.lst (us.set j v)))
      | none => .bad
    | _ => .bad
  | _, _ => .bad := (rfl)
end D
namespace D
open PySem L2
/-! ### a slice of a list of the store -/
def slR (f : DE) (a b : DO) : DL := fun env st => (f env st).bind fun u st1 => (a env st1).bind fun l st2 => (b env st2).bind fun h st3 => match u with
  | .ref n => match st3[n]? with
    | some (.lst us) => .ok (cutL us l h) st3
    | _ => .bad
  | _ => .bad
section
variable {X : Cx} {xs : XS} {wx : WX} {pos : Pos}
theorem l_sliceR {e : Expr} {lo hi : Option Expr} {p2 : Pos} {f : DE} {a b : DO} (he : PE X e (tD X.K xs wx f)) (hl : PO X lo (tDO X.K xs wx a)) (hu : PO X hi (tDO X.K xs wx b)) : PE X (.Subscript e (.Slice lo hi none p2) pos) (tDL X.K xs wx (slR f a b)) :=
  pe_imp (pe_slice sl_list he hl hu) fun sg H Q h => by
    obtain ⟨G, io, st, env, ok, er, w⟩ := h
    refine ⟨G, io, st, env, ok, er, w.bind.impR fun st1 io1 H1 u ok1 e1 w1 v rv => ?_⟩
    refine ⟨G, io1, st1, env, ok1, er.ext ok.dj e1, w1.bind.impR fun st2 io2 H2 l ok2 e2 w2 => ?_⟩
    refine ⟨G, io2, st2, env, ok2, (er.ext ok.dj e1).ext ok1.dj e2, w2.bind.impR fun st3 io3 H3 h ok3 e3 w3 => ?_⟩
    have r1 := (rv.ext e2).ext e3
    cases u with
    | ref n =>
      simp only at w3
      split at w3
      · rename_i us hus
        obtain ⟨a, vs, rfl, q1, q2, rs⟩ := ref_list ok3 hus r1
        refine ⟨a, vs, rfl, .inl (.inl q2), fun p hp => w3.here ok3 _ p ?_ hp⟩
        unfold cutL cutV
        rw [rs.length]
        exact (rs.drop _).take _
      · exact w3.elim
    | _ => exact w3.elim
end
@[simp] theorem slR_ap (f : DE) (a b : DO) (env : Env) (st : Store) : slR f a b env st = (f env st).bind fun u st1 => (a env st1).bind fun l st2 => (b env st2).bind fun h st3 => match u with
  | .ref n => match st3[n]? with
    | some (.lst us) => .ok (cutL us l h) st3
    | _ => .bad
  | _ => .bad := (rfl)
end D
namespace D
open PySem L2
/-! ### a list of the frame's own is given back, as one of the store -/
def sRetR (i : Nat) : DS := fun env st => match env[i]? with
  | some (.own us) => .rt (.ref st.length) (st ++ [.lst us])
  | _ => .bad
section
variable {X : Cx} {xs : XS} {wx : WX} {pos p : Pos}
theorem s_retR {i : Nat} {x : Str} (hN : X.N[i]? = some x := by rfl) (hv : Vis X.env.scope x := by first | exact Or.inl rfl | exact Or.inr (Or.inl rfl) | exact Or.inr (Or.inr rfl)) (hd : (x == ("__debug__" : Str)) = false := by decide) (hcd : (x == ("__classdict__" : Str)) = false := by decide) :
    PS X (.Return (some (.Name x p)) pos) (tDS X.K xs wx (sRetR i)) := ps_imp (ps_ret (pe_var (i := i) hN hv hd hcd)) fun D sg H h => by
  obtain ⟨F, io, st, env, f, w⟩ := h
  unfold sRetR at w
  split at w
  · rename_i us q
    obtain ⟨a, vs, e1, e2, r⟩ := f.slot q
    have oa : Ow env sg a := ⟨i, us, q, e1⟩
    have nio : a ∉ io := fun z => f.ok.dj a z (.inr oa)
    have m : Mono (Gs F env sg) io H F (io ++ [a]) H := ⟨⟨[a], rfl⟩, fun b o n h => ⟨h, fun z => z.elim (fun y => n (.inl (.inl y))) fun y => by
      rcases List.mem_append.mp y with y | y
      · exact n (.inr y)
      · rw [List.mem_singleton] at y
        subst y
        exact n (.inl (.inr oa))⟩⟩
    refine ⟨.ref a, e1, w (io ++ [a]) H (.ref a) ⟨?_, fun b hb z => ?_, fun b hb => ?_, by simp [f.ok.len], fun n ob b g1 g2 => ?_⟩ ⟨⟨[a], rfl, fun b hb => .inr (by rw [List.mem_singleton] at hb; rw [hb]; exact oa)⟩, fun _ _ _ _ h => h, fun _ o h => ⟨o, h⟩, fun _ h => h.elim⟩ ?_⟩
    · rw [List.nodup_append]
      refine ⟨f.ok.nd, by simp, fun x hx y hy e => ?_⟩
      rw [List.mem_singleton] at hy
      subst hy; subst e
      exact nio hx
    · rcases List.mem_append.mp hb with h | h
      · exact f.ok.dj b h (.inl z)
      · rw [List.mem_singleton] at h; subst h
        exact f.nF b oa z
    · rcases hb with h | h
      · exact f.ok.trk b (.inl (.inl h))
      · rcases List.mem_append.mp h with h | h
        · exact f.ok.trk b (.inr h)
        · rw [List.mem_singleton] at h; subst h
          exact ⟨_, e2, nx_lst⟩
    · by_cases hn : n < io.length
      · rw [List.getElem?_append_left hn] at g2
        rw [List.getElem?_append_left (by rw [f.ok.len]; exact hn)] at g1
        exact (f.ok.obs n ob b g1 g2).mono m (fun _ q => q) fun _ _ q => q
      · rw [List.getElem?_append_right (Nat.le_of_not_lt hn)] at g2
        rw [List.getElem?_append_right (by rw [f.ok.len]; exact Nat.le_of_not_lt hn)] at g1
        rw [f.ok.len] at g1
        have h0 : n - io.length = 0 := by
          cases h : n - io.length with
          | zero => rfl
          | succ k => rw [h] at g2; simp at g2
        rw [h0] at g1 g2
        simp only [List.getElem?_cons_zero, Option.some.injEq] at g1 g2
        subst g1; subst g2
        exact ⟨vs, e2, r.mono m⟩
    · unfold Rep
      refine ⟨a, ?_, rfl⟩
      rw [f.ok.len, List.getElem?_append_right (Nat.le_refl _)]
      simp
  · exact w.elim
end
@[simp] theorem sRetR_ap (i : Nat) (env : Env) (st : Store) : sRetR i env st = match env[i]? with
  | some (.own us) => .rt (.ref st.length) (st ++ [.lst us])
  | _ => .bad := (rfl)
end D
namespace D
open PySem L2
/-! ### list.index of a text -/
def txtsOf : List U → Option (List Str)
  | [] => some []
  | .str x :: us => (txtsOf us).map (x :: ·)
  | _ :: _ => none
theorem txtsOf_rep {K : PySem.W.Frag} {W : Addr → Prop} {io : List Addr} {H : Hp} : ∀ {us : List U} {ws : List Str} {vs : List V}, txtsOf us = some ws → Reps K W io H us vs → vs = ws.map V.str
  | [], ws, vs, e, r => by cases e; rw [r.isNil]; rfl
  | u :: us, ws, vs, e, r => by
    obtain ⟨v, t, rfl, h1, h2⟩ := r.uncons
    cases u with
    | str x =>
      obtain ⟨ws', e', rfl⟩ := Option.map_eq_some_iff.mp e
      rw [h1.str', txtsOf_rep e' h2]; rfl
    | _ => cases e
def idx2 : U → U → Option U
  | .lst us, .str x => (txtsOf us).bind fun ws => if x ∈ ws ∧ ws.length ≤ 1000 then some (.int (ws.idxOf x : Nat)) else none
  | _, _ => none
def idxD (f g : DE) : DE := fun env st => (f env st).bind fun u st1 => match u with
  | .lst us => (g env st1).bind fun v st2 => Rs.of (idx2 (.lst us) v) st2
  | _ => .bad
section
variable {X : Cx} {xs : XS} {wx : WX} {pos : Pos}
theorem d_index {o e : Expr} {f g : DE} {apos : Pos} (ho : PE X o (tD X.K xs wx f)) (he : PE X e (tD X.K xs wx g)) (hbase : attributeBase o "index" X.env (eval o X.env) = eval o X.env := by rfl)
    (hfew : ((backTo pos (starEach [e] X.env)).all (fun x => !x.1) && (backToKw pos (keywordEach [] X.env)).all (fun x => x.1.isSome) && decide ([e].length + ([] : List Keyword).length + (if ([] : List Keyword).isEmpty then 0 else 1) < 30)) = true := by rfl)
    (hline : (apos.endLine == pos.line) = true := by rfl) (hs : starEach (e :: []) X.env = (false, eval e X.env) :: starEach [] X.env := by rfl) (hplain : (backTo pos (starEach [] X.env)).any (·.1) = false := by rfl) :
    PE X (.Call (.Attribute o "index" apos) [e] [] pos) (tD X.K xs wx (idxD f g)) :=
  pe_imp (pe_bm PySem.F.plainAttrs_list PySem.F.slot_list_index PySem.F.type_list_index mt_index ho (pa_cons he pa_nil hs) hbase hfew hline hs hplain) fun sg H Q h => by
    obtain ⟨G, io, st, env, ok, er, w⟩ := h
    refine ⟨G, io, st, env, ok, er, w.bind.impR fun st1 io1 H1 u ok1 e1 w1 v rv => ?_⟩
    cases u with
    | lst us =>
      obtain ⟨a, vs, rfl, l, rs⟩ := rv.lst'
      refine ⟨.inl ⟨rfl, vs, l.sq⟩, G, io1, st1, env, ok1, er.ext ok.dj e1, (Wants.bind w1).impR fun st2 io2 H2 y ok2 e2 w2 x rx => ?_⟩
      obtain ⟨r, hr, w3⟩ := w2.pure
      cases y with
      | str x' =>
        have hr : ((txtsOf us).bind fun ws => if x' ∈ ws ∧ ws.length ≤ 1000 then some (U.int (ws.idxOf x' : Nat)) else none) = some r := hr
        cases ht : txtsOf us with
        | none => rw [ht] at hr; cases hr
        | some ws =>
          rw [ht] at hr
          simp only [Option.bind_some] at hr
          split at hr
          · rename_i hm
            cases hr
            have ev := txtsOf_rep ht (rs.ext e2)
            have ex := rx.str'
            subst ev
            subst ex
            have hl : ws.idxOf x' < ws.length := List.idxOf_lt_length_iff.mpr hm.1
            refine ⟨a, ws.map V.str, .str x', ws.idxOf x', .str ws[ws.idxOf x'], rfl, rfl, ?_, rfl, ?_, ?_, ?_, fun m z hm' hz => ?_, w3.here ok2 _ (rInt _)⟩
            · obtain ⟨a', vs', ea, la, ra⟩ := (rv.ext e2).lst'
              cases ea
              have := txtsOf_rep ht ra
              subst this
              exact la.sq
            · rw [List.all_eq_true]
              intro z hz
              obtain ⟨w, _, rfl⟩ := List.mem_map.mp hz
              rfl
            · rw [List.getElem?_map, List.getElem?_eq_getElem hl]; rfl
            · show (ws[ws.idxOf x'] == x') = true
              rw [List.getElem_idxOf hl]; simp
            · rw [List.getElem?_map] at hz
              obtain ⟨w, hw, rfl⟩ := Option.map_eq_some_iff.mp hz
              show (w == x') = false
              have hml : m < ws.length := by omega
              rw [List.getElem?_eq_getElem hml] at hw
              cases hw
              have hm2 : m < ws.findIdx (· == x') := hm'
              have := List.not_of_lt_findIdx hm2
              simpa using this
          · cases hr
      | _ => cases hr
    | _ => exact w1.elim
end
end D
namespace D
open PySem L2
/-! ### tuple(text) -/
def tupSN : List U → Option U
  | [.str x] => if x.cps.size ≤ sizeLine then some (.tup (x.cps.toList.map fun c => U.str ⟨#[c]⟩)) else none
  | _ => none
theorem signs_reps {K : PySem.W.Frag} {W : Addr → Prop} {io : List Addr} {H : Hp} : ∀ cs : List Nat, Reps K W io H (cs.map fun c => U.str ⟨#[c]⟩) (cs.map fun c => V.str ⟨#[c]⟩)
  | [] => by unfold Reps; rfl
  | c :: cs => by unfold Reps; exact ⟨_, _, rfl, rStr _, signs_reps cs⟩
section
variable {X : Cx}
theorem c_tupS (hc : X.calm = true) : CallR X (.type "tuple") (PN X.K tupSN) := by
  intro pins s sg H vs us Q I r h
  obtain ⟨G, io, st, ws, u, ok, rs, e, q⟩ := h
  unfold tupSN at e
  split at e
  · rename_i x
    split at e
    · rename_i hz
      cases e
      obtain ⟨v, rfl, rv⟩ := rs.one
      have e1 := rv.str'; subst e1
      obtain ⟨z, rfl, rx⟩ := vals1 r
      obtain ⟨t, rfl⟩ := rx
      refine PySem.call_tuple_str (I.ok.hd hc) x t (fun h' tk acc kp hacc => ?_) hz
      have I1 : Inv X pins sg H { s with heap := h', toks := tk } := I.kept kp
      have hl : acc.toList.length = acc.size := by simp
      have vv : Vals (x.cps.toList.map fun c => V.str ⟨#[c]⟩) acc.toList := vals_of_at (by rw [List.length_map, hl, hacc.1]; simp) fun j y w h1 h2 => by
        obtain ⟨c, t', hcx, rfl⟩ := hacc.2 j w (by rw [← Array.getElem?_toList]; exact h2)
        rw [List.getElem?_map, Array.getElem?_toList, hcx] at h1
        cases h1
        exact ⟨t', rfl⟩
      have I2 : Inv X pins sg (upd H h'.objs.size (.tup (x.cps.toList.map fun c => V.str ⟨#[c]⟩))) { s with heap := h'.push { cls := .type "tuple", data := .seq acc }, toks := tk } :=
        I1.laid (t' := tk) (fun b o e => Heap.get?_push_of_some _ e) (Nat.le_refl _) (show ObjOk X.prog X.w _ _ _ (.tup _) from ⟨by rw [List.length_map]; simpa using hz, acc.toList, vv, PyProof.Rows.IsTup.new _ _⟩)
      have hp : H h'.objs.size = none := I1.hok.fresh (Nat.le_refl _)
      exact ⟨.ref h'.objs.size, _, I2, rfl, q _ _ (same_upd hp) (ok.newT hp (signs_reps _))⟩
    · cases e
  · cases e
end
@[simp] theorem tupSN_ap (x : Str) : tupSN [.str x] = if x.cps.size ≤ 16777216 then some (.tup (x.cps.toList.map fun c => U.str ⟨#[c]⟩)) else none := by rw [← sizeLine_val]; rfl
end D
namespace D
open PySem L2
/-! ### sep.join(texts) -/
def join2 (a : Str) (u : U) : Option U := (txts u).bind fun ys => if (ys.map (·.length)).sum + ys.length * a.length ≤ 16777216 then some (.str (Txt.join a ys)) else none
def joinD (f g : DE) : DE := fun env st => (f env st).bind fun u st1 => match u with
  | .str a => (g env st1).bind fun v st2 => Rs.of (join2 a v) st2
  | _ => .bad
/-- sorted(texts) -/
def sortTxt (u : U) : Option (List U) := (match u with
  | .lst us => strsU us
  | _ => none).bind fun ys => if ys.length < 64 then some ((sortS ys).map U.str) else none
/-! ### lists of the store -/
def lenR (f : DE) : DE := fun env st => (f env st).bind fun u st1 => match u with
  | .ref n => match st1[n]? with
    | some (.lst us) => .ok (.int us.length) st1
    | _ => .bad
  | _ => .bad
def catR (f g : DE) : DL := fun env st => (f env st).bind fun u st1 => (g env st1).bind fun v st2 => match u, v with
  | .ref n, .lst ws => match st2[n]? with
    | some (.lst us) => if us.length + ws.length ≤ sizeLine then .ok (us ++ ws) st2 else .bad
    | _ => .bad
  | _, _ => .bad
def sExtR (f g : DE) : DS := fun env st => (f env st).out env fun u st1 => match u with
  | .ref n => match st1[n]? with
    | some (.lst _) => (g env st1).out env fun v st2 => match st2[n]?, seqU v with
      | some (.lst us), some ws => if us.length + ws.length ≤ sizeLine then .nx env (st2.set n (.lst (us ++ ws))) else .bad
      | _, _ => .bad
    | _ => .bad
  | _ => .bad
/-! ### lists of the frame's own that are lent -/
mutual
def noRef : U → Bool
  | .ref _ => false
  | .tup us => noRefs us
  | .lst us => noRefs us
  | .dct _ us => noRefs us
  | _ => true
def noRefs : List U → Bool
  | [] => true
  | u :: us => noRef u && noRefs us
end
mutual
theorem Rep.io_any {K : PySem.W.Frag} {W W' : Addr → Prop} {io io' : List Addr} {H : Hp} (hW : ∀ a, W' a → W a) : ∀ (u : U) (v : V), noRef u = true → Rep K W io H u v → Rep K W' io' H u v
  | .non, v, _, h => by unfold Rep at h ⊢; exact h
  | .bl b, v, _, h => by unfold Rep at h ⊢; exact h
  | .int i, v, _, h => by unfold Rep at h ⊢; exact h
  | .str x, v, _, h => by unfold Rep at h ⊢; exact h
  | .ty x, v, _, h => by unfold Rep at h ⊢; exact h
  | .ref x, v, n, h => by unfold noRef at n; cases n
  | .tup us, v, n, h => by
    unfold Rep at h ⊢
    unfold noRef at n
    obtain ⟨a, vs, e, l, r⟩ := h
    refine ⟨a, vs, e, ?_, Reps.io_any hW us vs n r⟩
    unfold LT at l ⊢
    exact l.imp (fun z => ⟨z.1, fun y => z.2 (hW a y)⟩) id
  | .lst us, v, n, h => by
    unfold Rep at h ⊢
    unfold noRef at n
    obtain ⟨a, vs, e, l, r⟩ := h
    refine ⟨a, vs, e, ?_, Reps.io_any hW us vs n r⟩
    unfold LL at l ⊢
    exact ⟨l.1, fun z => l.2 (hW a z)⟩
  | .dct ks us, v, n, h => by
    unfold Rep at h ⊢
    unfold noRef at n
    obtain ⟨a, vs, e, l, r⟩ := h
    refine ⟨a, vs, e, ?_, Reps.io_any hW us vs n r⟩
    unfold LD at l ⊢
    exact ⟨fun z => l.1 (hW a z), l.2⟩
  | .scr ns, v, n, h => by
    unfold Rep at h ⊢
    obtain ⟨a, e, l⟩ := h
    refine ⟨a, e, ?_⟩
    unfold LS at l ⊢
    exact l.imp (fun z => ⟨z.1, fun y => z.2 (hW a y)⟩) id
theorem Reps.io_any {K : PySem.W.Frag} {W W' : Addr → Prop} {io io' : List Addr} {H : Hp} (hW : ∀ a, W' a → W a) : ∀ (us : List U) (vs : List V), noRefs us = true → Reps K W io H us vs → Reps K W' io' H us vs
  | [], vs, _, h => by unfold Reps at h ⊢; exact h
  | u :: us, vs, n, h => by
    unfold Reps at h ⊢
    unfold noRefs at n
    rw [Bool.and_eq_true] at n
    obtain ⟨v, r, e, q, t⟩ := h
    exact ⟨v, r, e, Rep.io_any hW u v n.1 q, Reps.io_any hW us r n.2 t⟩
end
/-- f(x), x a list of the frame's own, lent to a function that keeps nothing of it -/
def appO (g : List U → Store → Rs U) (i : Nat) : DE := fun env st => match ownL env[i]? with
  | some us => match g [.lst us] [] with
    | .ok u [] => if flatU u && noRefs us then .ok u st else .bad
    | _ => .bad
  | none => .bad
def binOL (g : U → U → Option U) (i : Nat) (fb : DE) : DE := fun env st => match ownL env[i]? with
  | some us => (fb env st).bind fun v st1 => Rs.of (flat1 (g (.lst us) v)) st1
  | none => .bad
def sPop (i : Nat) : DS := fun env st => match env[i]? with
  | some (.own us) => if 0 < us.length then .nx (env.set i (.own us.dropLast)) st else .bad
  | _ => .bad
section
variable {X : Cx} {xs : XS} {wx : WX} {pos : Pos}
theorem d_join {o e : Expr} {f g : DE} {apos : Pos} (ho : PE X o (tD X.K xs wx f)) (he : PE X e (tD X.K xs wx g)) (hs : starEach [e] X.env = [(false, eval e X.env)] := by rfl) (hbase : attributeBase o "join" X.env (eval o X.env) = eval o X.env := by rfl) (hline : (apos.endLine == pos.line) = true := by rfl) :
    PE X (.Call (.Attribute o "join" apos) [e] [] pos) (tD X.K xs wx (joinD f g)) := pe_imp (pe_join ho he hs hbase hline) fun sg H Q h => by
  obtain ⟨G, io, st, env, ok, er, w⟩ := h
  refine ⟨G, io, st, env, ok, er, w.bind.impR fun st1 io1 H1 u ok1 e1 w1 v rv => ?_⟩
  cases u with
  | str a =>
    have ev := rv.str'
    subst ev
    refine ⟨⟨a, rfl⟩, G, io1, st1, env, ok1, er.ext ok.dj e1, (Wants.bind w1).impR fun st2 io2 H2 u2 ok2 e2 w2 v2 rv2 => ?_⟩
    obtain ⟨r, hr, w3⟩ := w2.pure
    unfold join2 at hr
    rw [Option.bind_eq_some_iff] at hr
    obtain ⟨ys, hy, hr⟩ := hr
    split at hr
    · rename_i hz
      cases hr
      obtain ⟨l, rfl, sq⟩ := txts_rep rv2 hy
      exact ⟨a, l, ys, rfl, rfl, sq, hz, w3.here ok2 _ (rStr _)⟩
    · cases hr
  | _ => exact w1.elim
theorem l_sorted {e : Expr} {p : Pos} {f : DE} (hg : Gl X "sorted") (hm : X.mg "sorted" = none) (he : PE X e (tD X.K xs wx f)) (hs : starEach [e] X.env = (false, eval e X.env) :: starEach [] X.env := by rfl) :
    PE X (.Call (.Name "sorted" p) [e] [] pos) (tDL X.K xs wx (itE sortTxt f)) := by
  refine pe_imp (pe_callB (pos := pos) (p := p) cr_sortedS hg hm bt_sorted (pa_cons he pa_nil hs) (by decide) (by decide) hs rfl) fun sg H Q h => ?_
  obtain ⟨G, io, st, env, ok, er, w⟩ := h
  refine ⟨G, io, st, env, ok, er, w.bind.impR fun st1 io1 H1 u ok1 e1 w1 v rv => ?_⟩
  obtain ⟨ws, hu, w2⟩ := w1.pure
  unfold sortTxt at hu
  rw [Option.bind_eq_some_iff] at hu
  obtain ⟨ys, hy, hu⟩ := hu
  split at hu
  · rename_i hz
    cases hu
    cases u with
    | lst us =>
      obtain ⟨l, vs, rfl, ll, rr⟩ := rv.lst'
      have hy : strsU us = some ys := hy
      rw [strs_eq hy] at rr
      rw [Reps.ofStrs rr] at ll
      refine ⟨l, ys, rfl, ll.sq, hz, fun zs q pm hs hq => ?_⟩
      rw [sort_unique hs pm]
      exact w2.here ok1 _ q (Reps.strs _) hq
    | _ => cases hy
  · cases hu
theorem d_lenR {e : Expr} {p : Pos} {f : DE} (hg : Gl X "len") (hm : X.mg "len" = none) (he : PE X e (tD X.K xs wx f)) (hs : starEach [e] X.env = (false, eval e X.env) :: starEach [] X.env := by rfl) :
    PE X (.Call (.Name "len" p) [e] [] pos) (tD X.K xs wx (lenR f)) := by
  refine pe_imp (pe_callB (pos := pos) (p := p) call_len_seq hg hm bt_len (pa_cons he pa_nil hs) (by decide) (by decide) hs rfl) fun sg H Q h => ?_
  obtain ⟨G, io, st, env, ok, er, w⟩ := h
  refine ⟨G, io, st, env, ok, er, w.bind.impR fun st1 io1 H1 u ok1 e1 w1 v rv => ?_⟩
  cases u with
  | ref n =>
    simp only at w1
    split at w1
    · rename_i us hus
      obtain ⟨a, vs, rfl, q1, q2, rs⟩ := ref_list ok1 hus rv
      refine ⟨a, vs, rfl, .inl (.inl (.inl q2)), ?_⟩
      rw [← rs.length]
      exact Wants.here (a := U.int (us.length : Nat)) w1 ok1 _ (rInt _)
    · exact w1.elim
  | _ => exact w1.elim
theorem l_catR {a b : Expr} {f g : DE} (ha : PE X a (tD X.K xs wx f)) (hb : PE X b (tD X.K xs wx g)) : PE X (.BinOp a .Add b pos) (tDL X.K xs wx (catR f g)) :=
  pe_imp (pe_op op_cat ha hb) fun sg H Q q => by
    obtain ⟨G, io, st, env, ok, er, w⟩ := q
    refine ⟨G, io, st, env, ok, er, w.bind.impR fun st1 io1 H1 u ok1 e1 w1 v rv => ?_⟩
    refine ⟨G, io1, st1, env, ok1, er.ext ok.dj e1, w1.bind.impR fun st2 io2 H2 u2 ok2 e2 w2 v2 rv2 => ?_⟩
    split at w2
    · rename_i n ws
      split at w2
      · rename_i us hus
        split at w2
        · rename_i hz
          obtain ⟨p, vs, rfl, q1, q2, rs⟩ := ref_list ok2 hus (rv.ext e2)
          obtain ⟨p', ys', rfl, l', r'⟩ := rv2.lst'
          refine ⟨p, p', vs, ys', rfl, rfl, q2, l'.1, by rw [← rs.length, ← r'.length]; exact hz, fun q hq => ?_⟩
          exact w2.here ok2 _ q (rs.append r') hq
        · exact w2.elim
      · exact w2.elim
    · exact w2.elim
theorem s_extR {o e : Expr} {f g : DE} {p1 : Pos} (ho : PE X o (tD X.K xs wx f)) (he : PE X e (tD X.K xs wx g)) (hbase : attributeBase o "extend" X.env (eval o X.env) = eval o X.env := by rfl)
    (hfew : ((backTo pos (starEach [e] X.env)).all (fun x => !x.1) && (backToKw pos (keywordEach [] X.env)).all (fun x => x.1.isSome) && decide ([e].length + ([] : List Keyword).length + (if ([] : List Keyword).isEmpty then 0 else 1) < 30)) = true := by rfl)
    (hline : (p1.endLine == pos.line) = true := by rfl) (hs : starEach (e :: []) X.env = (false, eval e X.env) :: starEach [] X.env := by rfl) (hplain : (backTo pos (starEach [] X.env)).any (·.1) = false := by rfl)
    (hsw : swapsWith (.Call (.Attribute o "extend" p1) [e] [] pos) none pos.line X.env = Pure.pure false := by rfl) {pos2 : Pos} :
    PS X (.Expr (.Call (.Attribute o "extend" p1) [e] [] pos) pos2) (tDS X.K xs wx (sExtR f g)) := by
  refine ps_imp (ps_expr (pe_bm PySem.F.plainAttrs_list PySem.F.slot_list_extend PySem.F.type_list_extend mt_extA ho (pa_cons he pa_nil hs) hbase hfew hline hs hplain) hsw) fun D sg H h => ?_
  obtain ⟨F, io, st, env, fr, w⟩ := h
  refine ⟨Gs F env sg, io, st, env, fr.ok, fr.er, (WantsS.expr fr w).impR fun st1 io1 H1 u ok1 e1 z x rx => ?_⟩
  have z1 := z.2
  cases u with
  | ref n =>
    simp only at z1
    split at z1
    · rename_i us0 hus0
      obtain ⟨a, vs0, rfl, q1, q2, q3⟩ := ref_list ok1 hus0 rx
      refine ⟨.inl ⟨rfl, vs0, .inl (.inl q2)⟩, Gs F env sg, io1, st1, env, z.1.ok, z.1.er, (WantsS.expr z.1 z1).impR fun st2 io2 H2 u2 ok2 e2 z2 y ry => ?_⟩
      have z3 := z2.2
      split at z3
      · rename_i us ws hus hws
        split at z3
        · rename_i hl
          obtain ⟨a', vs, ea, p1, p2, p3⟩ := ref_list ok2 hus (rx.ext e2)
          cases ea
          cases u2 with
          | lst us' =>
            cases hws
            obtain ⟨b, zs, rfl, lb, rb⟩ := ry.lst'
            refine .inl ⟨a, b, vs, zs, rfl, rfl, p2, lb.1, by rw [← p3.length, ← rb.length]; exact hl, ?_⟩
            have y := z2.1.turnRef hus p1 (p3.append rb)
            exact z3 io2 _ _ y.1 y.2
          | tup us' =>
            cases hws
            obtain ⟨b, zs, rfl, lb, rb⟩ := ry.tup'
            refine .inr ⟨a, b, vs, zs, rfl, rfl, p2, lb.sq, by rw [← p3.length, ← rb.length]; exact hl, ?_⟩
            have y := z2.1.turnRef hus p1 (p3.append rb)
            exact z3 io2 _ _ y.1 y.2
          | _ => cases hws
        · exact z3.elim
      · exact z3.elim
    · exact z1.elim
  | _ => exact z1.elim
theorem own_lent {K : PySem.W.Frag} {G : Addr → Prop} {io : List Addr} {st : Store} {H : Hp} {us : List U} {y : V} (ok : Ok K G io st H) (hn : noRefs us = true) (r : Rep K (Wf G io) io H (.lst us) y) :
    Ok K (Wf G io) [] [] H ∧ Reps K (Wf (Wf G io) []) [] H [.lst us] [y] := by
  have sub : ∀ a, Wf (Wf G io) [] a → Wf G io a := fun a h => h.elim id fun z => nomatch z
  refine ⟨⟨List.nodup_nil, fun a h => (nomatch h), fun a h => ok.trk a (sub a h), rfl, fun n ob a e _ => by rw [List.getElem?_nil] at e; cases e⟩, ?_⟩
  exact .cons (Rep.io_any sub (.lst us) y (by unfold noRef; exact hn) r) .nil
theorem d_callO {k : Nat} {x y : Str} {p p2 : Pos} {i : Nat} {g : List U → Store → Rs U} (F : Fn X.prog X.w X.K X.mg X.base xs x k 1 g) (tk : Takes X wx) (hr : Room k X.A) (hg : Gl X x)
    (hb : PE X (.Name y p2) (tVar i)) (hdb : (x == ("__debug__" : Str)) = false := by decide)
    (he : starEach [.Name y p2] X.env = (false, eval (.Name y p2) X.env) :: starEach [] X.env := by rfl) (hpl : (backTo pos (starEach [] X.env)).any (·.1) = false := by rfl) : PE X (.Call (.Name x p) [.Name y p2] [] pos) (tD X.K xs wx (appO g i)) := by
  obtain ⟨⟨f, fd, ps, h1, h2, h3, h4⟩, h5⟩ := F
  refine pe_imp (pe_callSD (E := WE wx) (dvs := []) h4 hr hg h1 h2 h3 .nil (fun s => passAt tk s) (pa_cons hb pa_nil he) hdb he hpl) fun sg H Q h => ?_
  obtain ⟨G, io, st, env, ok, er, w⟩ := h
  unfold appO at w
  cases hO : ownL env[i]? with
  | none => rw [hO] at w; exact w.elim
  | some us =>
    rw [hO] at w
    simp only at w
    obtain ⟨v, G', hy, sub, ok', ry⟩ := own_look ok er hO
    cases hG : g [.lst us] [] with
    | bad => rw [hG] at w; exact w.elim
    | ex c fs s => rw [hG] at w; exact w.elim
    | ok u s =>
      rw [hG] at w
      cases s with
      | cons ob s => exact w.elim
      | nil =>
        simp only at w
        split at w
        · rename_i hf
          rw [Bool.and_eq_true] at hf
          obtain ⟨okE, rE⟩ := own_lent ok' hf.2 ry
          refine ⟨v, hy, rfl, Wf G' io, [], [], [.lst us], okE, rE, ?_⟩
          rw [hG]
          intro io' H' ok2 e2 v' rv'
          have hio : io' = [] := List.length_eq_zero_iff.mp (by rw [← ok2.len]; rfl)
          subst hio
          have sm : Same H H' := fun a o e => e2.keep a o (fun z => nomatch z) e
          exact w.hereS ok sm v' (flat_any hf.1 rv')
        · exact w.elim
theorem binOL_read {g : U → U → Option U} {fb : DE} {i : Nat} {sg : L2.St} {H : Hp} {Q : VK} (h : tD X.K xs wx (binOL g i fb) sg H Q) : tOp (P2 X.K g) (tVar i) (tD X.K xs wx fb) sg H Q := by
  obtain ⟨G, io, st, env, ok, er, w⟩ := h
  unfold binOL at w
  cases hO : ownL env[i]? with
  | none => rw [hO] at w; exact w.elim
  | some us =>
    rw [hO] at w
    simp only at w
    obtain ⟨y, G', hy, sub, ok', ry⟩ := own_look ok er hO
    refine ⟨y, hy, G, io, st, env, ok, er, (Wants.bind w).impR fun st1 io1 H1 u ok1 e1 w1 v rv => ?_⟩
    obtain ⟨a, ha, w3⟩ := w1.pure
    obtain ⟨hg, hf⟩ := flat1_of ha
    obtain ⟨y', G2, hy', sub', ok2, ry'⟩ := own_look ok1 (er.ext ok.dj e1) hO
    rw [hy] at hy'
    cases hy'
    have m : Mono G io1 H1 G2 io1 H1 := ⟨⟨[], by simp⟩, fun b o n z => ⟨z, fun q => n (q.imp (sub' b) id)⟩⟩
    exact ⟨G2, io1, st1, .lst us, u, a, ok2, ry', rv.mono m, hg, fun v' H' s r => w3.hereS ok1 s v' (flat_any hf r)⟩
theorem t_cmpOL {op : CmpOp} {g : U → U → Option U} {a b : Expr} {fb : DE} {i : Nat} (ho : OpR X (compareOp op) (P2 X.K g)) (ha : PE X a (tVar i)) (hb : PE X b (tD X.K xs wx fb)) (hm : behindInMarks op b = false := by first | exact nomark _ | rfl) :
    PT X (.Compare a [op] [b] pos) (tDT X.K xs wx (tst (binOL g i fb))) := pt_imp (pt_cmpR ho ha hb hm) fun sg H Q h => by
  obtain ⟨G, io, st, env, ok, er, w⟩ := h
  refine binOL_read (Q := fun x H1 => ∃ k, x = .bl k ∧ Q k H1) ?_
  exact tst_read (t := tVar 0) ⟨G, io, st, env, ok, er, w⟩
theorem d_cmpOL {op : CmpOp} {g : U → U → Option U} {a b : Expr} {fb : DE} {i : Nat} (ho : OpR X (compareOp op) (P2 X.K g)) (ha : PE X a (tVar i)) (hb : PE X b (tD X.K xs wx fb)) (hm : behindInMarks op b = false := by first | exact nomark _ | rfl) : PE X (.Compare a [op] [b] pos) (tD X.K xs wx (binOL g i fb)) :=
  pe_imp (pe_cmpR ho ha hb hm) fun _ _ _ h => binOL_read h
theorem s_pop {i : Nat} {x : Str} {p1 p2 : Pos} (hN : X.N[i]? = some x) (hv : Vis X.env.scope x) (hd : (x == ("__debug__" : Str)) = false := by decide) (hcd : (x == ("__classdict__" : Str)) = false := by decide)
    (hline : (p1.endLine == pos.line) = true := by rfl) (hsw : swapsWith (.Call (.Attribute (.Name x p2) "pop" p1) [] [] pos) none pos.line X.env = Pure.pure false := by rfl) {pos2 : Pos} :
    PS X (.Expr (.Call (.Attribute (.Name x p2) "pop" p1) [] [] pos) pos2) (tDS X.K xs wx (sPop i)) := by
  refine ps_imp (ps_expr (pe_bm0 PySem.F.plainAttrs_list PySem.F.slot_list_pop PySem.F.type_list_pop mt_pop (pe_var (i := i) hN hv hd hcd) (by rfl) hline) hsw) fun D sg H h => ?_
  obtain ⟨F, io, st, env, fr, w⟩ := h
  unfold sPop at w
  split at w
  · rename_i us q
    split at w
    · rename_i hl
      obtain ⟨a, vs, e1, e2, r⟩ := fr.slot q
      have hlv : 0 < vs.length := by rw [← r.length]; exact hl
      obtain ⟨y, hy⟩ : ∃ y, vs[vs.length - 1]? = some y := ⟨_, List.getElem?_eq_getElem (by omega)⟩
      refine ⟨.ref a, e1, .inl ⟨rfl, vs, .inl (.inl e2)⟩, a, vs, y, rfl, rfl, e2, hy, ?_⟩
      have rr : Reps X.K (Wf (Gs F env sg) io) io H us.dropLast vs.dropLast := by
        rw [List.dropLast_eq_take, List.dropLast_eq_take, r.length]
        exact r.take _
      have y := fr.turnOwn q e1 rr
      exact w io _ _ y.1 y.2
    · exact w.elim
  · exact w.elim
theorem c_str : CallR X (.type "str") (PN X.K strN) := by
  intro pins s sg H vs us Q I r h
  obtain ⟨G, io, st, ws, u, ok, rs, e, q⟩ := h
  unfold strN at e
  split at e
  · split at e
    · rename_i hz
      cases e
      obtain ⟨v, rfl, rv⟩ := rs.one
      have e1 := rv.int'; subst e1
      exact call_str_int pins s sg H _ us Q I r ⟨_, rfl, hz, q _ H (Same.refl H) (rStr _)⟩
    · cases e
  · cases e
    obtain ⟨v, rfl, rv⟩ := rs.one
    have e1 := rv.str'; subst e1
    exact SkE.call_str_str pins s sg H _ us Q I r ⟨_, rfl, q _ H (Same.refl H) (rStr _)⟩
  · cases e
theorem spop (i : Nat) {x : Str} {p1 p2 : Pos} (hN : X.N[i]? = some x := by rfl) (hv : Vis X.env.scope x := by first | exact Or.inl rfl | exact Or.inr (Or.inl rfl) | exact Or.inr (Or.inr rfl)) (hd : (x == ("__debug__" : Str)) = false := by decide) (hcd : (x == ("__classdict__" : Str)) = false := by decide)
    (hline : (p1.endLine == pos.line) = true := by rfl) (hsw : swapsWith (.Call (.Attribute (.Name x p2) "pop" p1) [] [] pos) none pos.line X.env = Pure.pure false := by rfl) {pos2 : Pos} :
    PS X (.Expr (.Call (.Attribute (.Name x p2) "pop" p1) [] [] pos) pos2) (tDS X.K xs wx (sPop i)) := s_pop hN hv hd hcd hline hsw
end
@[simp] theorem joinD_ap (f g : DE) (env : Env) (st : Store) : joinD f g env st = (f env st).bind fun u st1 => match u with
  | .str a => (g env st1).bind fun v st2 => Rs.of (join2 a v) st2
  | _ => .bad := (rfl)
@[simp] theorem lenR_ap (f : DE) (env : Env) (st : Store) : lenR f env st = (f env st).bind fun u st1 => match u with
  | .ref n => match st1[n]? with
    | some (.lst us) => .ok (.int us.length) st1
    | _ => .bad
  | _ => .bad := (rfl)
@[simp] theorem catR_ap (f g : DE) (env : Env) (st : Store) : catR f g env st = (f env st).bind fun u st1 => (g env st1).bind fun v st2 => match u, v with
  | .ref n, .lst ws => match st2[n]? with
    | some (.lst us) => if us.length + ws.length ≤ sizeLine then .ok (us ++ ws) st2 else .bad
    | _ => .bad
  | _, _ => .bad := (rfl)
@[simp] theorem sExtR_ap (f g : DE) (env : Env) (st : Store) : sExtR f g env st = (f env st).out env fun u st1 => match u with
  | .ref n => match st1[n]? with
    | some (.lst _) => (g env st1).out env fun v st2 => match st2[n]?, seqU v with
      | some (.lst us), some ws => if us.length + ws.length ≤ sizeLine then .nx env (st2.set n (.lst (us ++ ws))) else .bad
      | _, _ => .bad
    | _ => .bad
  | _ => .bad := (rfl)
@[simp] theorem appO_ap (g : List U → Store → Rs U) (i : Nat) (env : Env) (st : Store) : appO g i env st = match ownL env[i]? with
  | some us => match g [.lst us] [] with
    | .ok u [] => if flatU u && noRefs us then .ok u st else .bad
    | _ => .bad
  | none => .bad := (rfl)
@[simp] theorem binOL_ap (g : U → U → Option U) (i : Nat) (fb : DE) (env : Env) (st : Store) : binOL g i fb env st = match ownL env[i]? with
  | some us => (fb env st).bind fun v st1 => Rs.of (flat1 (g (.lst us) v)) st1
  | none => .bad := (rfl)
@[simp] theorem sPop_ap (i : Nat) (env : Env) (st : Store) : sPop i env st = match env[i]? with
  | some (.own us) => if 0 < us.length then .nx (env.set i (.own us.dropLast)) st else .bad
  | _ => .bad := (rfl)
end D
namespace D
open PySem L2
/-! ### x[k] = v, x a list of the frame's own -/
def sIxO (i : Nat) (g e : DE) : DS := fun env st => (e env st).out env fun v st1 => match env[i]? with
  | some (.own us) => (g env st1).out env fun k st2 => match k with
    | .int n => match ixN us.length n with
      | some j => .nx (env.set i (.own (us.set j v))) st2
      | none => .bad
    | _ => .bad
  | _ => .bad
section
variable {X : Cx} {xs : XS} {wx : WX} {pos : Pos}
theorem s_ixO {i : Nat} {x : Str} {p : Pos} {b e : Expr} {g h : DE} {pos' : Pos} (hi : PE X b (tD X.K xs wx g)) (he : PE X e (tD X.K xs wx h)) (hN : X.N[i]? = some x := by rfl) (hv : Vis X.env.scope x := by first | exact Or.inl rfl | exact Or.inr (Or.inl rfl) | exact Or.inr (Or.inr rfl)) (hd : (x == ("__debug__" : Str)) = false := by decide) (hcd : (x == ("__classdict__" : Str)) = false := by decide)
    (hs : swapsWithSole [.Subscript (.Name x p) b pos'] e pos.line X.env = Pure.pure false := by rfl) (hw : swappedStores [.Subscript (.Name x p) b pos'] e X.env = Pure.pure none := by rfl)
    (h1 : (assignEach [.Subscript (.Name x p) b pos'] X.env).map (·.2) = [assign (.Subscript (.Name x p) b pos') X.env] := by rfl)
    (ha : ∀ v, assign (.Subscript (.Name x p) b pos') X.env v = (do
      let ov ← holding [v] (eval (.Name x p) X.env)
      let iv ← holding [v, ov] (eval b X.env)
      standAt pos'
      holding [v, ov, iv] (setItem ov iv v)
      release [v, ov, iv] []) := by intro _; rfl) : PS X (.Assign [.Subscript (.Name x p) b pos'] e pos) (tDS X.K xs wx (sIxO i g h)) :=
  ps_imp (ps_asg he (pg_sub (pe_var (i := i) hN hv hd hcd) hi set_list ha) hs hw h1) fun D sg H q => by
    obtain ⟨F, io, st, env, fr, w⟩ := q
    refine ⟨Gs F env sg, io, st, env, fr.ok, fr.er, (WantsS.expr fr w).impR fun st1 io1 H1 v ok1 e1 z y ry => ?_⟩
    have z1 := z.2
    split at z1
    · rename_i us q
      obtain ⟨a, vs, c1, c2, r⟩ := z.1.slot q
      refine ⟨.ref a, c1, Gs F env sg, io1, st1, env, z.1.ok, z.1.er, (WantsS.expr z.1 z1).impR fun st2 io2 H2 k ok2 e2 z2 t rt => ?_⟩
      have z3 := z2.2
      cases k with
      | int n =>
        simp only at z3
        split at z3
        · rename_i j hj
          obtain ⟨a', vs', c1', c2', r'⟩ := z2.1.slot q
          rw [c1] at c1'; cases c1'
          have et := rt.int'
          subst et
          refine ⟨a, vs', n, j, rfl, rfl, c2', by rw [← r'.length]; exact hj, ?_⟩
          have y' := z2.1.turnOwn q c1 (r'.set j (ry.ext e2))
          exact z3 io2 _ _ y'.1 y'.2
        · exact z3.elim
      | _ => exact z3.elim
    · exact z1.elim
end
@[simp] theorem sIxO_ap (i : Nat) (g e : DE) (env : Env) (st : Store) : sIxO i g e env st = (e env st).out env fun v st1 => match env[i]? with
  | some (.own us) => (g env st1).out env fun k st2 => match k with
    | .int n => match ixN us.length n with
      | some j => .nx (env.set i (.own (us.set j v))) st2
      | none => .bad
    | _ => .bad
  | _ => .bad := (rfl)
end D
/-! OA: objects of own classes, in the store -/
namespace D
open PySem L2
theorem nx_ins {C dx : Addr} {fs : List (Str × V)} : NX (.ins C dx fs) := fun _ z => nomatch z
theorem nx_dK {kvs : List (Key × V)} : NX (.dK kvs) := fun _ z => nomatch z
theorem nx_dT {kvs : List (List Key × V)} : NX (.dT kvs) := fun _ z => nomatch z
section
variable {K : PySem.W.Frag} {F G : Addr → Prop} {io : List Addr} {st : Store} {env : Env} {sg : L2.St} {H : Hp}
/-- an object of the store turns -/
theorem Fr.turnOb (f : Fr K F io st env sg H) {n : Nat} {ob ob' : Ob} {o' : HO} {a : Addr} (h1 : st[n]? = some ob) (h2 : io[n]? = some a) (hx : NX o')
    (new : Mono (Gs F env sg) io H (Gs F env sg) io (upd H a o') → ObRep K (Wf (Gs F env sg) io) io (upd H a o') a ob') :
    Fr K F io (st.set n ob') env sg (upd H a o') ∧ ExtO io H (Ow env sg) io (upd H a o') (Ow env sg) := by
  have ha : a ∈ io := List.mem_of_getElem? h2
  have hn : n < st.length := (List.getElem?_eq_some_iff.mp h1).1
  have keep : ∀ b o, b ≠ a → H b = some o → (upd H a o') b = some o := fun b o q h => by rw [upd_ne q]; exact h
  have ex : ExtO io H (Ow env sg) io (upd H a o') (Ow env sg) := ⟨⟨[], by simp, fun _ h => nomatch h⟩, fun b o q _ h => keep b o (fun e => q (e ▸ ha)) h, fun b o h => by
    by_cases e : b = a
    · subst e; exact ⟨_, upd_same⟩
    · exact ⟨o, keep b o e h⟩, fun b h => .inl h⟩
  have m := ex.mono (F := F)
  have nG : ∀ b, Gs F env sg b → b ≠ a := fun b hb e => f.ok.dj a ha (e ▸ hb)
  have nxa : ∀ (dd : Addr) (ws : List (Str × V)), H dd = some (.xd ws) → dd ≠ a := fun dd ws z e => by
    subst e
    obtain ⟨o, e1, x⟩ := f.ok.trk dd (.inr ha)
    rw [z] at e1; cases e1; exact x ws rfl
  refine ⟨⟨⟨f.ok.nd, f.ok.dj, fun b h => ?_, by simp [f.ok.len], fun k ob b e1 e2 => ?_⟩, ⟨f.er.len, fun j sl o g1 g2 => ?_⟩, f.nF, f.dd⟩, ex⟩
  · obtain ⟨o, e, x⟩ := f.ok.trk b h
    by_cases hb : b = a
    · subst hb; exact ⟨_, upd_same, hx⟩
    · exact ⟨o, keep b o hb e, x⟩
  · by_cases hk : n = k
    · subst hk
      rw [List.getElem?_set_self hn] at e1
      rw [h2] at e2
      cases e1; cases e2
      exact new m
    · rw [List.getElem?_set_ne hk] at e1
      have nb : b ≠ a := fun e => by
        subst e
        exact hk ((List.getElem?_inj (List.getElem?_eq_some_iff.mp h2).1 f.ok.nd).mp (h2.trans e2.symm))
      exact (f.ok.obs k ob b e1 e2).mono m (fun u q => keep b u nb q) fun dd ws q => keep dd _ (nxa dd ws q) q
  · have q := f.er.sl j sl o g1 g2
    cases sl with
    | un => trivial
    | val u' => obtain ⟨v', q1, q2⟩ := q; exact ⟨v', q1, q2.mono m⟩
    | own w =>
      obtain ⟨b, vs1, q1, q2, q3, q4⟩ := q
      exact ⟨b, vs1, q1, q2, keep _ _ (nG b q2) q3, q4.mono m⟩
/-- fields -/
def putU (x : Str) (v : U) : List (Str × U) → List (Str × U)
  | [] => [(x, v)]
  | (g, y) :: r => if g = x then (g, v) :: r else (g, y) :: putU x v r
def zipF (fs : List (Str × U)) (vs : List V) : List (Str × V) := (fs.map (·.1)).zip vs
theorem look_some {W : Addr → Prop} {x : Str} {u : U} : ∀ {fs : List (Str × U)} {vs : List V}, Reps K W io H (fs.map (·.2)) vs → fs.lookup x = some u → ∃ v, (zipF fs vs).lookup x = some v ∧ Rep K W io H u v
  | [], _, _, h => nomatch h
  | (g, y) :: fs, vs, r, h => by
    obtain ⟨v, t, rfl, r1, r2⟩ := r.uncons
    show ∃ w, List.lookup x ((g, v) :: zipF fs t) = some w ∧ _
    rw [List.lookup_cons] at h ⊢
    cases q : x == g with
    | true => rw [q] at h; simp only at h ⊢; cases h; exact ⟨v, rfl, r1⟩
    | false => rw [q] at h; simp only at h ⊢; exact look_some r2 h
theorem look_none {W : Addr → Prop} {x : Str} : ∀ {fs : List (Str × U)} {vs : List V}, Reps K W io H (fs.map (·.2)) vs → fs.lookup x = none → (zipF fs vs).lookup x = none
  | [], _, _, _ => rfl
  | (g, y) :: fs, vs, r, h => by
    obtain ⟨v, t, rfl, r1, r2⟩ := r.uncons
    show List.lookup x ((g, v) :: zipF fs t) = none
    rw [List.lookup_cons] at h ⊢
    cases q : x == g with
    | true => rw [q] at h; cases h
    | false => rw [q] at h; simp only at h ⊢; exact look_none r2 h
theorem put_zip {W : Addr → Prop} {x : Str} {u : U} {v : V} (ru : Rep K W io H u v) : ∀ {fs : List (Str × U)} {vs : List V}, Reps K W io H (fs.map (·.2)) vs → ∃ vs', putF x v (zipF fs vs) = zipF (putU x u fs) vs' ∧ Reps K W io H ((putU x u fs).map (·.2)) vs'
  | [], vs, r => ⟨[v], rfl, .cons ru .nil⟩
  | (g, y) :: fs, vs, r => by
    obtain ⟨w, t, rfl, r1, r2⟩ := r.uncons
    show ∃ vs', putF x v ((g, w) :: zipF fs t) = zipF (putU x u ((g, y) :: fs)) vs' ∧ _
    unfold putF putU
    by_cases q : g = x
    · rw [if_pos q, if_pos q]; exact ⟨v :: t, rfl, .cons ru r2⟩
    · rw [if_neg q, if_neg q]
      obtain ⟨vs', e, r'⟩ := put_zip ru r2
      exact ⟨w :: vs', by rw [e]; rfl, .cons r1 r'⟩
theorem zipF_len {W : Addr → Prop} {fs : List (Str × U)} {vs : List V} (r : Reps K W io H (fs.map (·.2)) vs) : (zipF fs vs).length = fs.length := by
  have := r.length
  unfold zipF
  rw [List.length_zip, List.length_map]
  rw [List.length_map] at this
  omega
theorem ref_obj {n : Nat} {c : Str} {fs : List (Str × U)} {v : V} (ok : Ok K G io st H) (h : st[n]? = some (.obj c fs)) (r : Rep K (Wf G io) io H (.ref n) v) : ∃ a C dx vs, v = .ref a ∧ io[n]? = some a ∧ clsAt K c = some C ∧ H a = some (.ins C dx (zipF fs vs)) ∧ Reps K (Wf G io) io H (fs.map (·.2)) vs := by
  unfold Rep at r
  obtain ⟨a, e1, rfl⟩ := r
  obtain ⟨C, dx, vs, q1, q2, q3⟩ := ok.obs n _ a h e1
  exact ⟨a, C, dx, vs, rfl, e1, q1, q2, q3⟩
end
/-- the classes cs have no attribute of this name -/
def CsF (K : PySem.W.Frag) (cs : List Str) (x : Str) : Prop := ∀ c ∈ cs, ∀ C, clsAt K c = some C → Cls K C ∧ NoAttr K C x
theorem csf_nil {K : PySem.W.Frag} {x : Str} : CsF K [] x := fun _ h => nomatch h
theorem csf_cons {K : PySem.W.Frag} {c x : Str} {cs : List Str} {C : Addr} (h1 : clsAt K c = some C) (h2 : Cls K C) (h3 : NoAttr K C x) (t : CsF K cs x) : CsF K (c :: cs) x := fun d hd D hD => by
  rcases List.mem_cons.mp hd with rfl | hd
  · rw [h1] at hD; cases hD; exact ⟨h2, h3⟩
  · exact t d hd D hD
/-- o.x -/
def fldD (cs : List Str) (x : Str) (f : DE) : DE := fun env st => (f env st).bind fun u st1 => match u with
  | .ref n => match st1[n]? with
    | some (.obj c fs) => if c ∈ cs then Rs.of (fs.lookup x) st1 else .bad
    | _ => .bad
  | _ => .bad
/-- o.x = e -/
def sFldS (cs : List Str) (x : Str) (f e : DE) : DS := fun env st => (e env st).out env fun v st1 => (f env st1).out env fun u st2 => match u with
  | .ref n => match st2[n]? with
    | some (.obj c fs) => if c ∈ cs ∧ fs.length < 1000 then .nx env (st2.set n (.obj c (putU x v fs))) else .bad
    | _ => .bad
  | _ => .bad
/-- o.x += e, o.x -= e, of ints -/
def sFldA (cs : List Str) (x : Str) (op : Int → Int → Int) (f e : DE) : DS := fun env st => (f env st).out env fun u st1 => match u with
  | .ref n => match st1[n]? with
    | some (.obj c fs) => if c ∈ cs then match fs.lookup x with
      | some (.int i) => (e env st1).out env fun v st2 => match v, st2[n]? with
        | .int j, some (.obj c' fs') => if c' = c ∧ fs'.length < 1000 then .nx env (st2.set n (.obj c (putU x (.int (op i j)) fs'))) else .bad
        | _, _ => .bad
      | _ => .bad
      else .bad
    | _ => .bad
  | _ => .bad
/-- C(..) -/
def mkO (c : Str) (g : List U → Store → Rs U) (fa : DA) : DE := fun env st => (fa env st).bind fun us st1 => (g (.ref st1.length :: us) (st1 ++ [.obj c []])).bind fun u st2 => match u with
  | .non => .ok (.ref st1.length) st2
  | _ => .bad
/-- o.m(..), by the object's class -/
def mtD (alts : List (Str × (List U → Store → Rs U))) (m : Str) (f : DE) (fa : DA) : DE := fun env st => (f env st).bind fun u st1 => match u with
  | .ref n => match st1[n]? with
    | some (.obj c fs) => match alts.lookup c, fs.lookup m with
      | some g, none => (fa env st1).bind fun us st2 => g (.ref n :: us) st2
      | _, _ => .bad
    | _ => .bad
  | _ => .bad
structure MkF (P : Program) (w : World) (K : PySem.W.Frag) (mg : Str → Option Value) (base : Heap) (xs : XS) (c : Str) (k n : Nat) (g : List U → Store → Rs U) : Prop where
  ex : ∃ C f fd ps, mg c = some (.ref C) ∧ clsAt K c = some C ∧ Mk K C f ∧ Binds K fd ps [] ∧ FnOk P w K mg base (L2.CX P w) k f fd ps (spD K xs n g)
  bad : ∀ us st, us.length ≠ n → g us st = .bad
structure Mt (P : Program) (w : World) (K : PySem.W.Frag) (mg : Str → Option Value) (base : Heap) (xs : XS) (c m : Str) (k n : Nat) (g : List U → Store → Rs U) : Prop where
  ex : ∃ C f fd ps, clsAt K c = some C ∧ Cls K C ∧ Meth K C m f ∧ Binds K fd ps [] ∧ FnOk P w K mg base (L2.CX P w) k f fd ps (spD K xs n g)
  bad : ∀ us st, us.length ≠ n → g us st = .bad
def Mts (P : Program) (w : World) (K : PySem.W.Frag) (mg : Str → Option Value) (base : Heap) (xs : XS) (m : Str) (k : Nat) (alts : List (Str × (List U → Store → Rs U))) : Prop := ∀ p ∈ alts, ∃ k' n, k' ≤ k ∧ Mt P w K mg base xs p.1 m k' n p.2
section
variable {P : Program} {w : World} {K : PySem.W.Frag} {mg : Str → Option Value} {base : Heap} {xs : XS} {m : Str} {k : Nat}
theorem mts_nil : Mts P w K mg base xs m k [] := fun _ h => nomatch h
theorem mts_cons {c : Str} {k' n : Nat} {g : List U → Store → Rs U} {alts : List (Str × (List U → Store → Rs U))} (h : Mt P w K mg base xs c m k' n g) (hk : k' ≤ k) (t : Mts P w K mg base xs m k alts) : Mts P w K mg base xs m k ((c, g) :: alts) := fun p hp => by
  rcases List.mem_cons.mp hp with rfl | hp
  · exact ⟨k', n, hk, h⟩
  · exact t p hp
theorem Mts.at {alts : List (Str × (List U → Store → Rs U))} {c : Str} {g : List U → Store → Rs U} (h : Mts P w K mg base xs m k alts) (e : alts.lookup c = some g) : ∃ k' n, k' ≤ k ∧ Mt P w K mg base xs c m k' n g := by
  induction alts with
  | nil => cases e
  | cons p r ih =>
    rw [show p = (p.1, p.2) from rfl, List.lookup_cons] at e
    cases q : c == p.1 with
    | true =>
      rw [q] at e
      simp only at e
      cases e
      have : c = p.1 := eq_of_beq q
      rw [this]
      exact h p (List.mem_cons_self ..)
    | false => rw [q] at e; exact ih (fun p hp => h p (List.mem_cons_of_mem _ hp)) e
end
/-- a method whose class is told by the object -/
def tMethA (X : Cx) (m : Str) (k : Nat) (wx : WX) (ta : TE) (t : TA) : TE := fun σ H Q => ta σ H fun x H1 => ∃ a C dx fs f fd ps sp k', k' ≤ k ∧ x = .ref a ∧ H1 a = some (.ins C dx fs) ∧ Cls X.K C ∧ Meth X.K C m f ∧ Binds X.K fd ps [] ∧ FnOk X.prog X.w X.K X.mg X.base (L2.CX X.prog X.w) k' f fd ps sp ∧ fs.lookup m = none ∧ t σ H1 fun vs H2 => sp (x :: vs) H2 Q (WE wx σ)
section
variable {X : Cx} {xs : XS} {wx : WX} {pos : Pos}
theorem d_fld {cs : List Str} {x : Str} {e : Expr} {f : DE} (hc : CsF X.K cs x) (he : PE X e (tD X.K xs wx f)) (hb : attributeBase e x X.env (eval e X.env) = eval e X.env := by rfl) : PE X (.Attribute e x pos) (tD X.K xs wx (fldD cs x f)) := pe_imp (pe_fld he hb) fun sg H Q q => by
  obtain ⟨G, io, st, env, ok, er, w⟩ := q
  refine ⟨G, io, st, env, ok, er, w.bind.impR fun st1 io1 H1 u ok1 e1 w1 v rv => ?_⟩
  cases u with
  | ref n =>
    simp only at w1
    split at w1
    · rename_i c fs hn
      split at w1
      · rename_i hcs
        obtain ⟨u, hu, w2⟩ := w1.pure
        obtain ⟨a, C, dx, vs, rfl, i1, i2, i3, i4⟩ := ref_obj ok1 hn rv
        obtain ⟨y, l1, l2⟩ := look_some i4 hu
        exact ⟨a, C, dx, _, y, rfl, i3, (hc c hcs C i2).1, (hc c hcs C i2).2, l1, w2.here ok1 y l2⟩
      · exact w1.elim
    · exact w1.elim
  | _ => exact w1.elim
theorem s_fld {cs : List Str} {x : Str} {o e : Expr} {f g : DE} {pos' : Pos} (hc : CsF X.K cs x) (ho : PE X o (tD X.K xs wx f)) (he : PE X e (tD X.K xs wx g)) (hs : swapsWith e (some (.Attribute o x pos')) pos.line X.env = Pure.pure false := by rfl) : PS X (.Assign [.Attribute o x pos'] e pos) (tDS X.K xs wx (sFldS cs x f g)) := ps_imp (ps_fld ho he hs) fun D sg H q => by
  obtain ⟨F, io, st, env, fr, w⟩ := q
  refine ⟨Gs F env sg, io, st, env, fr.ok, fr.er, (WantsS.expr fr w).impR fun st1 io1 H1 v ok1 e1 z y ry => ?_⟩
  refine ⟨Gs F env sg, io1, st1, env, z.1.ok, z.1.er, (WantsS.expr z.1 z.2).impR fun st2 io2 H2 u ok2 e2 z2 t rt => ?_⟩
  have z4 := z2.2
  cases u with
  | ref n =>
    simp only at z4
    split at z4
    · rename_i c fs hn
      split at z4
      · rename_i hcs
        obtain ⟨a, C, dx, vs, rfl, i1, i2, i3, i4⟩ := ref_obj ok2 hn rt
        obtain ⟨vs', p1, p2⟩ := put_zip (x := x) (ry.ext e2) i4
        refine ⟨a, C, dx, _, rfl, i3, (hc c hcs.1 C i2).1, (hc c hcs.1 C i2).2, by rw [zipF_len i4]; exact hcs.2, ?_⟩
        obtain ⟨f4, e4⟩ := z2.1.turnOb (ob' := .obj c (putU x v fs)) hn i1 (o' := .ins C dx (putF x y (zipF fs vs))) nx_ins fun m => ⟨C, dx, vs', i2, by rw [upd_same, p1]; rfl, p2.mono m⟩
        exact z4 _ _ _ f4 e4
      · exact z4.elim
    · exact z4.elim
  | _ => exact z4.elim
theorem s_fldA {cs : List Str} {x : Str} {op : Operator} {iop : Int → Int → Int} {o e : Expr} {f g : DE} {tpos : Pos} (hc : CsF X.K cs x) (ho : PE X o (tD X.K xs wx f)) (he : PE X e (tD X.K xs wx g)) (hop : InOp X op (fun x y H Q => ∃ i j, x = .int i ∧ y = .int j ∧ Q (.int (iop i j)) H)) : PS X (.AugAssign (.Attribute o x tpos) op e pos) (tDS X.K xs wx (sFldA cs x iop f g)) := ps_imp (ps_fldaug ho he hop) fun D sg H q => by
  obtain ⟨F, io, st, env, fr, w⟩ := q
  refine ⟨Gs F env sg, io, st, env, fr.ok, fr.er, (WantsS.expr fr w).impR fun st1 io1 H1 u ok1 e1 z t rt => ?_⟩
  have z4 := z.2
  cases u with
  | ref n =>
    simp only at z4
    split at z4
    · rename_i c fs hn
      split at z4
      · rename_i hcs
        split at z4
        · rename_i i hi
          obtain ⟨a, C, dx, vs, rfl, i1, i2, i3, i4⟩ := ref_obj ok1 hn rt
          obtain ⟨y, l1, l2⟩ := look_some i4 hi
          have ey : y = .int i := by unfold Rep at l2; exact l2
          subst ey
          refine ⟨a, C, dx, _, _, rfl, i3, (hc c hcs C i2).1, (hc c hcs C i2).2, l1, ?_⟩
          refine ⟨Gs F env sg, io1, st1, env, z.1.ok, z.1.er, (WantsS.expr z.1 z4).impR fun st2 io2 H2 v ok2 e2 z2 t2 rt2 => ?_⟩
          have z5 := z2.2
          split at z5
          · rename_i j c' fs' hn'
            split at z5
            · rename_i hcc
              have et : t2 = .int j := by unfold Rep at rt2; exact rt2
              subst et
              refine ⟨i, j, rfl, rfl, ?_⟩
              obtain ⟨rfl, hl⟩ := hcc
              obtain ⟨a', C', dx', vs', ea, j1, j2, j3, j4⟩ := ref_obj ok2 hn' (rt.ext e2)
              cases ea
              rw [i2] at j2; cases j2
              obtain ⟨vs2, p1, p2⟩ := put_zip (x := x) (u := .int (iop i j)) (v := .int (iop i j)) (by unfold Rep; rfl) j4
              refine ⟨dx', _, j3, by rw [zipF_len j4]; exact hl, ?_⟩
              obtain ⟨f4, e4⟩ := z2.1.turnOb (ob' := .obj c' (putU x (.int (iop i j)) fs')) hn' j1 (o' := .ins C dx' (putF x (.int (iop i j)) (zipF fs' vs'))) nx_ins fun m => ⟨C, dx', vs2, i2, by rw [upd_same, p1]; rfl, p2.mono m⟩
              exact z5 _ _ _ f4 e4
            · exact z5.elim
          · exact z5.elim
        · exact z4.elim
      · exact z4.elim
    · exact z4.elim
  | _ => exact z4.elim
theorem run_makeSD {k : Nat} {C f : Addr} {fd : FuncData} {ps : List Str} {sp : Sp} {E : L2.St → XK} {pins : List (Addr × Obj)} {σ : L2.St} {H : Hp} {s : Shared} {Q : VK} {us : List Value} {vs : List V} (M : Mk X.K C f) (F : FnOk X.prog X.w X.K X.mg X.base (L2.CX X.prog X.w) k f fd ps sp) (hr : Room (k + 1) X.A) (hb : Binds X.K fd ps [])
    (hx : PassesAt (L2.CX X.prog X.w) X σ (E σ)) (I : Inv X pins σ H s) (r : Vals vs us)
    (h : ∀ x dx, H x = none → H dx = none → dx ≠ x → sp (.ref x :: vs) (upd (upd H dx (.own x)) x (.ins C dx [])) (fun v H2 => v = .non ∧ Q (.ref x) H2) (E σ)) :
    wpAny (model X.prog X.w) X.A (call (.ref C) us) (EP X pins σ Q) X.xe s := by
  have hq := h (s.heap.objs.size + 1) s.heap.objs.size (I.hok.fresh (Nat.le_succ _)) (I.hok.fresh (Nat.le_refl _)) (Nat.ne_of_lt (Nat.lt_succ_self _))
  have I2 := Inv.made (C := C) I
  have r2 : Vals (V.ref (s.heap.objs.size + 1) :: vs) (Value.ref (s.heap.objs.size + 1) :: us) := .cons rfl r
  have hl : (Value.ref (s.heap.objs.size + 1) :: us ++ []).length = ps.length := by
    have e := r2.length
    rw [F.len _ _ _ _ hq] at e
    rw [List.append_nil]; exact e.symm
  have hbb := hb _ (Value.ref (s.heap.objs.size + 1) :: us) I2.kIn hl
  rw [List.append_nil] at hbb
  refine wpAny_call (make_map (f := f) I.kIn M.makes M.init (beq_iff_eq.mp M.fn) (codeAny_mono (F.run _ X.stack _ _ ⟨Value.ref (s.heap.objs.size + 1) :: us, []⟩ (Value.ref (s.heap.objs.size + 1) :: us) _ _ (E σ) (hr.make C us [])
    (I2.env0.make C us []) hbb r2 hq) fun r s' hq' => ?_))
  cases r with
  | error e => exact hx pins _ _ e s' I2 hq'
  | ok fl =>
    cases fl with
    | ret u =>
      obtain ⟨v, H', I3, rv, ev, q3⟩ := I2.after hq'
      subst ev
      exact ⟨rv, ⟨V.ref (s.heap.objs.size + 1), H', I3, rfl, q3⟩⟩
    | next => exact False.elim hq'
    | brk => exact False.elim hq'
    | cont => exact False.elim hq'
theorem d_make {k n : Nat} {c : Str} {p : Pos} {e : Expr} {es : List Expr} {g : List U → Store → Rs U} {fa : DA} (M : MkF X.prog X.w X.K X.mg X.base xs c k n g) (tk : Takes X wx) (hr : Room (k + 1) X.A) (hg : Gl X c)
    (ha : PA X (e :: es) (tDA X.K xs wx fa)) (hdb : (c == ("__debug__" : Str)) = false := by decide)
    (he : starEach (e :: es) X.env = (false, eval e X.env) :: starEach es X.env := by rfl) (hpl : (backTo pos (starEach es X.env)).any (·.1) = false := by rfl) : PE X (.Call (.Name c p) (e :: es) [] pos) (tD X.K xs wx (mkO c g fa)) := by
  obtain ⟨⟨C, f, fd, ps, h1, h2, h3, h4, h5⟩, hgn⟩ := M
  refine pe_imp (⟨fun pins s σ H Q I h => ?_⟩ : PE X _ (fun σ H Q => tDA X.K xs wx fa σ H fun vs H1 => ∀ x dx, H1 x = none → H1 dx = none → dx ≠ x → spD X.K xs n g (.ref x :: vs) (upd (upd H1 dx (.own x)) x (.ins C dx [])) (fun v H2 => v = .non ∧ Q (.ref x) H2) (WE wx σ))) fun sg H Q h => ?_
  · refine wpAny_Call_Name_kw (ld_glob I hg h1 ?_ hdb)
    refine PySem.W.callWith_K (h₀ := X.base) I.ok.mod.kin h3.kp (thn (ha.run pos pins s σ H _ I h) fun us s1 ⟨vs, H1, I1, r, q⟩ => ⟨I1.kIn, ?_⟩) he hpl
    exact run_makeSD (E := WE wx) h3 h5 hr h4 (passAt tk σ) I1 r q
  · obtain ⟨G, io, st, env, ok, er, w⟩ := h
    refine ⟨G, io, st, env, ok, er, w.bind.impR fun st1 io1 H1 us ok1 e1 w1 vs rvs x dx nx ndx ne => ?_⟩
    have hn : (U.ref st1.length :: us).length = n := Decidable.byContradiction fun z => by rw [hgn _ _ z] at w1; exact w1
    have s1 : Same H1 (upd H1 dx (.own x)) := same_upd ndx
    have nx' : (upd H1 dx (.own x)) x = none := by rw [upd_ne (Ne.symm ne)]; exact nx
    obtain ⟨ok2, e2⟩ := (ok1.same s1).alloc (o := .ins C dx []) (ob := .obj c []) nx' nx_ins ⟨C, dx, [], h2, by rw [upd_same]; rfl, .nil⟩
    have ex := (Ext.same (io := io1) s1).trans e2
    have hx : (io1 ++ [x])[st1.length]? = some x := by rw [ok1.len, List.getElem?_append_right (Nat.le_refl _)]; simp
    refine ⟨by rw [← hn, List.length_cons, List.length_cons, rvs.length], G, io1 ++ [x], st1 ++ [.obj c []], .ref st1.length :: us, ok2, .cons (by unfold Rep; exact ⟨x, hx, rfl⟩) (rvs.ext ex), ?_⟩
    refine (Wants.later w1.bind ex).impR fun st2 io2 H2 u ok3 e3 w2 v rv => ?_
    cases u with
    | non =>
      refine ⟨by unfold Rep at rv; exact rv, w2.here ok3 (.ref x) ?_⟩
      unfold Rep
      exact ⟨x, e3.io_get hx, rfl⟩
    | _ => exact w2.elim
theorem d_make0 {k n : Nat} {c : Str} {p : Pos} {g : List U → Store → Rs U} (M : MkF X.prog X.w X.K X.mg X.base xs c k n g) (tk : Takes X wx) (hr : Room (k + 1) X.A) (hg : Gl X c) (hdb : (c == ("__debug__" : Str)) = false := by decide) : PE X (.Call (.Name c p) [] [] pos) (tD X.K xs wx (mkO c g anil)) := by
  obtain ⟨⟨C, f, fd, ps, h1, h2, h3, h4, h5⟩, hgn⟩ := M
  refine pe_imp (⟨fun pins s σ H Q I h => ?_⟩ : PE X _ (fun σ H Q => ∀ x dx, H x = none → H dx = none → dx ≠ x → spD X.K xs n g (.ref x :: []) (upd (upd H dx (.own x)) x (.ins C dx [])) (fun v H2 => v = .non ∧ Q (.ref x) H2) (WE wx σ))) fun sg H Q h => ?_
  · refine wpAny_Call_Name_kw (ld_glob I hg h1 ?_ hdb)
    exact PySem.W.callWith_K0 I.kIn h3.kp (run_makeSD (E := WE wx) (us := []) h3 h5 hr h4 (passAt tk σ) I .nil h)
  · obtain ⟨G, io, st, env, ok, er, w⟩ := h
    intro x dx nx ndx ne
    have w1 : Wants X.K G io H (fun _ io' H' u => ∀ v, Rep X.K (Wf G io') io' H' u v → Q v H') (XW xs wx sg) ((g [.ref st.length] (st ++ [.obj c []])).bind fun u st2 => match u with
      | .non => .ok (.ref st.length) st2
      | _ => .bad) := w
    have hn : [U.ref st.length].length = n := Decidable.byContradiction fun z => by rw [hgn _ _ z] at w1; exact w1
    have s1 : Same H (upd H dx (.own x)) := same_upd ndx
    have nx' : (upd H dx (.own x)) x = none := by rw [upd_ne (Ne.symm ne)]; exact nx
    obtain ⟨ok2, e2⟩ := (ok.same s1).alloc (o := .ins C dx []) (ob := .obj c []) nx' nx_ins ⟨C, dx, [], h2, by rw [upd_same]; rfl, .nil⟩
    have ex := (Ext.same (io := io) s1).trans e2
    have hx : (io ++ [x])[st.length]? = some x := by rw [ok.len, List.getElem?_append_right (Nat.le_refl _)]; simp
    refine ⟨hn, G, io ++ [x], st ++ [.obj c []], [.ref st.length], ok2, .cons (by unfold Rep; exact ⟨x, hx, rfl⟩) .nil, ?_⟩
    refine (Wants.later w1.bind ex).impR fun st2 io2 H2 u ok3 e3 w2 v rv => ?_
    cases u with
    | non =>
      refine ⟨by unfold Rep at rv; exact rv, w2.here ok3 (.ref x) ?_⟩
      unfold Rep
      exact ⟨x, e3.io_get hx, rfl⟩
    | _ => exact w2.elim
theorem meth_read {m : Str} {k : Nat} {alts : List (Str × (List U → Store → Rs U))} {f : DE} {fa : DA} (hM : Mts X.prog X.w X.K X.mg X.base xs m k alts) {sg : L2.St} {H : Hp} {Q : VK} (h : tD X.K xs wx (mtD alts m f fa) sg H Q) : tMethA X m k wx (tD X.K xs wx f) (tDA X.K xs wx fa) sg H Q := by
  obtain ⟨G, io, st, env, ok, er, w⟩ := h
  refine ⟨G, io, st, env, ok, er, w.bind.impR fun st1 io1 H1 u ok1 e1 w1 v rv => ?_⟩
  cases u with
  | ref n =>
    simp only at w1
    split at w1
    · rename_i c fs hn
      split at w1
      · rename_i g hg hm
        obtain ⟨k', n', hk, ⟨⟨C, f, fd, ps, h2, h3, h4, h5, h6⟩, hgn⟩⟩ := hM.at hg
        obtain ⟨a, C', dx, vs, rfl, i1, i2, i3, i4⟩ := ref_obj ok1 hn rv
        rw [h2] at i2; cases i2
        refine ⟨a, C, dx, _, f, fd, ps, _, k', hk, rfl, i3, h3, h4, h5, h6, look_none i4 hm, ?_⟩
        refine ⟨G, io1, st1, env, ok1, er.ext ok.dj e1, w1.bind.impR fun st2 io2 H2 us ok2 e2 w2 vs' rvs => ?_⟩
        have hl : (U.ref n :: us).length = n' := Decidable.byContradiction fun z => by rw [hgn _ _ z] at w2; exact w2
        refine ⟨by rw [← hl, List.length_cons, List.length_cons, rvs.length], G, io2, st2, .ref n :: us, ok2, .cons (rv.ext e2) rvs, w2⟩
      · exact w1.elim
    · exact w1.elim
  | _ => exact w1.elim
theorem d_meth {m : Str} {k : Nat} {alts : List (Str × (List U → Store → Rs U))} {o e : Expr} {es : List Expr} {f : DE} {fa : DA} {apos : Pos} {pl : Sem Bool} (hM : Mts X.prog X.w X.K X.mg X.base xs m k alts) (tk : Takes X wx) (hr : Room k X.A) (ho : PE X o (tD X.K xs wx f)) (ha : PA X (e :: es) (tDA X.K xs wx fa))
    (hst : starEach (e :: es) X.env = (false, eval e X.env) :: starEach es X.env := by rfl) (hpl : (backTo pos (starEach es X.env)).any (·.1) = false := by rfl)
    (ht : eval (.Call (.Attribute o m apos) (e :: es) [] pos) X.env = (do
      let ov ← eval o X.env
      standAt apos.atName
      let (f, first) ← holding [ov] (getMethod ov m pl)
      callWith pos f first (backTo pos (starEach (e :: es) X.env)) (backToKw pos (keywordEach [] X.env))) := by rfl) :
    PE X (.Call (.Attribute o m apos) (e :: es) [] pos) (tD X.K xs wx (mtD alts m f fa)) := by
  refine pe_imp (⟨fun pins s σ H Q I h => ?_⟩ : PE X _ (tMethA X m k wx (tD X.K xs wx f) (tDA X.K xs wx fa))) fun sg H Q h => meth_read hM h
  refine PySem.W.methodCall_KW (pl := pl) (thn (ho.run pins s σ H _ I h) fun u s1 ⟨x, H1, I1, rx, a, C, dx, fs, f, fd, ps, sp, k', hk, ex, ea, c, hm, hb, F, l, q⟩ => ?_) ht
  subst ex
  obtain rfl : u = Value.ref a := rx
  refine getmeth_ok I1 ea c hm l ?_
  refine PySem.W.callWith_K (first := [.ref a]) (h₀ := X.base) I.ok.mod.kin hm.kp (thn (ha.run pos pins s1 σ H1 _ I1 q) fun us s2 ⟨vs, H2, I2, r, q2⟩ => ⟨I2.kIn, ?_⟩) hst hpl
  exact run_fnSD (E := WE wx) (us := .ref a :: us) (vs := .ref a :: vs) (dvs := []) F (hr.mono hk) hb .nil (passAt tk σ) I2 (.cons rfl r) (by rw [List.append_nil]; exact q2)
theorem d_meth0 {m : Str} {k : Nat} {alts : List (Str × (List U → Store → Rs U))} {o : Expr} {f : DE} {apos : Pos} {pl : Sem Bool} (hM : Mts X.prog X.w X.K X.mg X.base xs m k alts) (tk : Takes X wx) (hr : Room k X.A) (ho : PE X o (tD X.K xs wx f))
    (ht : eval (.Call (.Attribute o m apos) [] [] pos) X.env = (do
      let ov ← eval o X.env
      standAt apos.atName
      let (f, first) ← holding [ov] (getMethod ov m pl)
      callWith pos f first (backTo pos (starEach [] X.env)) (backToKw pos (keywordEach [] X.env))) := by rfl) :
    PE X (.Call (.Attribute o m apos) [] [] pos) (tD X.K xs wx (mtD alts m f anil)) := by
  refine pe_imp (⟨fun pins s σ H Q I h => ?_⟩ : PE X _ (tMethA X m k wx (tD X.K xs wx f) (tDA X.K xs wx anil))) fun sg H Q h => meth_read hM h
  refine PySem.W.methodCall_KW (pl := pl) (thn (ho.run pins s σ H _ I h) fun u s1 ⟨x, H1, I1, rx, a, C, dx, fs, f, fd, ps, sp, k', hk, ex, ea, c, hm, hb, F, l, q⟩ => ?_) ht
  subst ex
  obtain rfl : u = Value.ref a := rx
  refine getmeth_ok I1 ea c hm l ?_
  obtain ⟨G, io, st, env, ok, er, w⟩ := q
  have q2 := w.here ok [] .nil
  exact PySem.W.callWith_K0 (first := [.ref a]) I1.kIn hm.kp (run_fnSD (E := WE wx) (us := [.ref a]) (vs := [.ref a]) (dvs := []) F (hr.mono hk) hb .nil (passAt tk σ) I1 (.cons rfl .nil) (by rw [List.append_nil]; exact q2))
end
@[simp] theorem fldD_ap (cs : List Str) (x : Str) (f : DE) (env : Env) (st : Store) : fldD cs x f env st = (f env st).bind fun u st1 => match u with
  | .ref n => match st1[n]? with
    | some (.obj c fs) => if c ∈ cs then Rs.of (fs.lookup x) st1 else .bad
    | _ => .bad
  | _ => .bad := (rfl)
@[simp] theorem sFldS_ap (cs : List Str) (x : Str) (f e : DE) (env : Env) (st : Store) : sFldS cs x f e env st = (e env st).out env fun v st1 => (f env st1).out env fun u st2 => match u with
  | .ref n => match st2[n]? with
    | some (.obj c fs) => if c ∈ cs ∧ fs.length < 1000 then .nx env (st2.set n (.obj c (putU x v fs))) else .bad
    | _ => .bad
  | _ => .bad := (rfl)
@[simp] theorem mkO_ap (c : Str) (g : List U → Store → Rs U) (fa : DA) (env : Env) (st : Store) : mkO c g fa env st = (fa env st).bind fun us st1 => (g (.ref st1.length :: us) (st1 ++ [.obj c []])).bind fun u st2 => match u with
  | .non => .ok (.ref st1.length) st2
  | _ => .bad := (rfl)
@[simp] theorem mtD_ap (alts : List (Str × (List U → Store → Rs U))) (m : Str) (f : DE) (fa : DA) (env : Env) (st : Store) : mtD alts m f fa env st = (f env st).bind fun u st1 => match u with
  | .ref n => match st1[n]? with
    | some (.obj c fs) => match alts.lookup c, fs.lookup m with
      | some g, none => (fa env st1).bind fun us st2 => g (.ref n :: us) st2
      | _, _ => .bad
    | _ => .bad
  | _ => .bad := (rfl)
end D
/-! OB: several fields from one tuple; dicts whose keys are written tuples -/
namespace D
open PySem L2
/-! ### o.x, o.y = t -/
def gFld (K : PySem.W.Frag) (ta : TE) (x : Str) : TG := fun v σ H Q => ta σ H fun o H1 => ∃ a C dx fs, o = .ref a ∧ H1 a = some (.ins C dx fs) ∧ Cls K C ∧ NoAttr K C x ∧ fs.length < 1000 ∧ Q σ (upd H1 a (.ins C dx (putF x v fs)))
section
variable {X : Cx} {xs : XS} {wx : WX} {pos : Pos}
theorem pg_fld {o : Expr} {x : Str} {ta : TE} (ho : PE X o ta) : PG X (.Attribute o x pos) (gFld X.K ta x) := by
  refine ⟨fun pins s σ H v u Q I r h => ?_⟩
  rw [assign_Attribute]
  refine wpAny_bind (wpAny_holding (thn (ho.run pins s σ H _ I h) fun ov s1 ⟨y, H1, I1, r1, a, C, dx, fs, e1, e2, c, n, l, q⟩ => ?_))
  subst e1
  obtain rfl : ov = Value.ref a := r1
  refine wpAny_bind (wpAny_standAt (wpAny_bind (wpAny_holding (setattr_ok I1 e2 c n l r fun s3 I3 => ?_))))
  exact wpAny_release ⟨σ, _, I3, q⟩
def gFlds (K : PySem.W.Frag) (ta : TE) : List Str → TGs
  | [] => gNil
  | x :: r => gCons (gFld K ta x) (gFlds K ta r)
inductive GFl (X : Cx) (ta : TE) : List Expr → List Str → Prop
  | nil : GFl X ta [] []
  | cons {o : Expr} {x : Str} {p : Pos} {es : List Expr} {ns : List Str} (ho : PE X o ta) (t : GFl X ta es ns) : GFl X ta (.Attribute o x p :: es) (x :: ns)
theorem GFl.pgs {ta : TE} : ∀ {es : List Expr} {ns : List Str}, GFl X ta es ns → PGs X es (gFlds X.K ta ns) ∧ (assignEach es X.env).length = ns.length ∧ (assignEach es X.env).findIdx? (·.1) = none
  | _, _, .nil => ⟨pgs_nil, rfl, rfl⟩
  | _, _, .cons ho t => by
    obtain ⟨h1, h2, h3⟩ := GFl.pgs t
    refine ⟨pgs_cons (pg_fld ho) h1 rfl, ?_, ?_⟩
    · show (_ :: assignEach _ X.env).length = _
      simp [h2]
    · show List.findIdx? _ ((false, _) :: assignEach _ X.env) = none
      rw [List.findIdx?_cons]
      simp [h3]
def putAll (cs : List Str) (f : DE) : List Str → List U → DS
  | [], [], env, st => .nx env st
  | x :: ns, u :: us, env, st => (f env st).out env fun o st1 => match o with
    | .ref n => match st1[n]? with
      | some (.obj c fs) => if c ∈ cs ∧ fs.length < 1000 then putAll cs f ns us env (st1.set n (.obj c (putU x u fs))) else .bad
      | _ => .bad
    | _ => .bad
  | _, _, _, _ => .bad
def CsFs (K : PySem.W.Frag) (cs : List Str) (ns : List Str) : Prop := ∀ x ∈ ns, CsF K cs x
theorem csfs_nil {K : PySem.W.Frag} {cs : List Str} : CsFs K cs [] := fun _ h => nomatch h
theorem csfs_cons {K : PySem.W.Frag} {cs : List Str} {x : Str} {ns : List Str} (h : CsF K cs x) (t : CsFs K cs ns) : CsFs K cs (x :: ns) := fun y hy => by
  rcases List.mem_cons.mp hy with rfl | hy
  · exact h
  · exact t y hy
theorem putAll_read {K : PySem.W.Frag} {F : Addr → Prop} {cs : List Str} {f : DE} {env : Env} {sg : L2.St} {D : Ends} : ∀ (ns : List Str) (us : List U) (vs : List V) {io : List Addr} {st : Store} {H : Hp}, CsFs K cs ns → Fr K F io st env sg H → Reps K (Wf (Gs F env sg) io) io H us vs →
    WantsS K F io H (Ow env sg) D xs wx (putAll cs f ns us env st) → gFlds K (tD K xs wx f) ns vs sg H D.nx
  | [], [], vs, io, st, H, hc, fr, r, w => by
    rw [r.isNil]
    exact ⟨rfl, w io sg H fr (ExtO.refl _ _ _)⟩
  | [], u :: us, vs, io, st, H, hc, fr, r, w => w.elim
  | x :: ns, [], vs, io, st, H, hc, fr, r, w => w.elim
  | x :: ns, u :: us, vs, io, st, H, hc, fr, r, w => by
    obtain ⟨v, vr, rfl, r1, r2⟩ := r.uncons
    refine ⟨v, vr, rfl, ?_⟩
    unfold putAll at w
    refine ⟨Gs F env sg, io, st, env, fr.ok, fr.er, (WantsS.expr fr w).impR fun st1 io1 H1 o ok1 e1 z t rt => ?_⟩
    have z4 := z.2
    cases o with
    | ref n =>
      simp only at z4
      split at z4
      · rename_i c fs hn
        split at z4
        · rename_i hcs
          obtain ⟨a, C, dx, ws, rfl, i1, i2, i3, i4⟩ := ref_obj ok1 hn rt
          obtain ⟨ws', p1, p2⟩ := put_zip (x := x) (r1.ext e1) i4
          have hcx := hc x (List.mem_cons_self ..) c hcs.1 C i2
          refine ⟨a, C, dx, _, rfl, i3, hcx.1, hcx.2, by rw [zipF_len i4]; exact hcs.2, ?_⟩
          obtain ⟨f4, e4⟩ := z.1.turnOb (ob' := .obj c (putU x u fs)) hn i1 (o' := .ins C dx (putF x v (zipF fs ws))) nx_ins fun m => ⟨C, dx, ws', i2, by rw [upd_same, p1]; rfl, p2.mono m⟩
          exact putAll_read ns us vr (fun y hy => hc y (List.mem_cons_of_mem _ hy)) f4 ((r2.ext e1).mono (e4.mono (F := F))) (WantsS.later z4 e4)
        · exact z4.elim
      · exact z4.elim
    | _ => exact z4.elim
def sFldT (cs : List Str) (ns : List Str) (f e : DE) : DS := fun env st => (e env st).out env fun v st1 => match v with
  | .tup us => if us.length = ns.length then putAll cs f ns us env st1 else .bad
  | _ => .bad
theorem s_fldT {cs ns : List Str} {e : Expr} {es : List Expr} {k : Nat} {f g : DE} {pos' : Pos} (hcalm : X.calm = true) (hc : CsFs X.K cs ns) (he : PE X e (tD X.K xs wx g)) (ht : GFl X (tD X.K xs wx f) es ns)
    (hs : swapsWithSole [.Tuple es k pos'] e pos.line X.env = Pure.pure false := by rfl) (hw : swappedStores [.Tuple es k pos'] e X.env = Pure.pure none := by rfl)
    (h1 : (assignEach [.Tuple es k pos'] X.env).map (·.2) = [assign (.Tuple es k pos') X.env] := by rfl) : PS X (.Assign [.Tuple es k pos'] e pos) (tDS X.K xs wx (sFldT cs ns f g)) := by
  obtain ⟨t1, t2, t3⟩ := GFl.pgs ht
  refine ps_imp (ps_asg he (pg_tup hcalm t1 t2 t3) hs hw h1) fun D sg H q => ?_
  obtain ⟨F, io, st, env, fr, w⟩ := q
  refine ⟨Gs F env sg, io, st, env, fr.ok, fr.er, (WantsS.expr fr w).impR fun st1 io1 H1 v ok1 e1 z y ry => ?_⟩
  have z4 := z.2
  cases v with
  | tup us =>
    simp only at z4
    split at z4
    · rename_i hl
      unfold Rep at ry
      obtain ⟨a, vs, rfl, lt, rs⟩ := ry
      exact ⟨a, vs, rfl, lt.sq, by rw [← rs.length]; exact hl, putAll_read ns us vs hc z.1 rs z4⟩
    · exact z4.elim
  | _ => exact z4.elim
end
/-! ### keys that are tuples of ints and texts -/
def kOfs : List U → Option (List Key)
  | [] => some []
  | u :: us => match kOf u, kOfs us with
    | some k, some l => some (k :: l)
    | _, _ => none
def keyT : U → Option (List Key)
  | .tup us => kOfs us
  | _ => none
def keysT : List U → Option (List (List Key))
  | [] => some []
  | u :: us => match keyT u, keysT us with
    | some k, some l => some (k :: l)
    | _, _ => none
theorem kOf_kU (k : Key) : kOf (kU k) = some k := by cases k <;> rfl
theorem kOfs_kU : ∀ k : List Key, kOfs (k.map kU) = some k
  | [] => rfl
  | x :: k => by rw [List.map_cons]; unfold kOfs; rw [kOf_kU, kOfs_kU k]
theorem keysT_kU : ∀ ks : List (List Key), keysT (ks.map fun k => U.tup (k.map kU)) = some ks
  | [] => rfl
  | k :: ks => by rw [List.map_cons]; unfold keysT; rw [keysT_kU ks]; show (match kOfs (k.map kU), some ks with | some k, some l => some (k :: l) | _, _ => none) = _; rw [kOfs_kU]
def findT (k : List Key) : List (List Key) → List U → Option U
  | j :: ks, u :: us => if j = k then some u else findT k ks us
  | _, _ => none
def dTof : U → Option (List (List Key) × List U)
  | .dct (k0 :: ks) us => (keysT (k0 :: ks)).map fun kk => (kk, us)
  | _ => none
/-- d.get((a, b), x) -/
def getTD (f : DE) (ka : DA) (g : DE) : DE := fun env st => (f env st).bind fun u st1 => match dTof u with
  | some (kk, us) => (ka env st1).bind fun key st2 => if key.length ≤ sizeLine then (g env st2).bind fun d st3 => match kOfs key with
    | some k => .ok ((findT k kk us).getD d) st3
    | none => .bad
    else .bad
  | none => .bad
section
variable {K : PySem.W.Frag} {W : Addr → Prop} {io : List Addr} {H : Hp}
theorem kOfs_rep : ∀ {us : List U} {vs : List V} {k : List Key}, Reps K W io H us vs → kOfs us = some k → vs = k.map kV
  | [], _, _, r, e => by cases e; rw [r.isNil]; rfl
  | u :: us, _, _, r, e => by
    obtain ⟨v, t, rfl, r1, r2⟩ := r.uncons
    unfold kOfs at e
    split at e
    · rename_i a b e1 e2
      cases e
      rw [kOf_rep r1 e1, kOfs_rep r2 e2]; rfl
    · cases e
theorem findT_rep (k : List Key) : ∀ {kvs : List (List Key × V)} {us : List U}, Reps K W io H us (kvs.map (·.2)) → (match valV kvs k with
    | some v => ∃ u, findT k (kvs.map (·.1)) us = some u ∧ Rep K W io H u v
    | none => findT k (kvs.map (·.1)) us = none)
  | [], us, r => by
    have : us = [] := List.eq_nil_of_length_eq_zero (by have := r.length; simpa using this)
    subst this
    rw [valV_nil]; rfl
  | p :: kvs, us, r => by
    cases us with
    | nil => have := r.length; simp at this
    | cons u us =>
      rw [List.map_cons] at r
      obtain ⟨v, t, e, r1, r2⟩ := r.uncons
      cases e
      by_cases q : p.1 = k
      · rw [valV_pos q]
        refine ⟨u, ?_, r1⟩
        rw [List.map_cons]; unfold findT; rw [if_pos q]
      · rw [valV_neg q]
        have := findT_rep k r2
        rw [List.map_cons]; unfold findT; rw [if_neg q]; exact this
end
section
variable {X : Cx} {xs : XS} {wx : WX} {pos : Pos}
theorem d_getT {o f : Expr} {es : List Expr} {x1} {fo : DE} {ka : DA} {g : DE} {apos tpos : Pos} (hu : X.A.units + 1 < cLine) (ho : PE X o (tD X.K xs wx fo)) (hk : PA X es (tDA X.K xs wx ka)) (hf : PE X f (tD X.K xs wx g)) (m : M2 X o "get" apos (.Tuple es x1 tpos) f pos := by exact ⟨rfl, rfl, rfl, rfl⟩) :
    PE X (.Call (.Attribute o "get" apos) [.Tuple es x1 tpos, f] [] pos) (tD X.K xs wx (getTD fo ka g)) := pe_imp (pe_dget2 hu ho (pe_tup hk) hf m) fun sg H Q q => by
  obtain ⟨G, io, st, env, ok, er, w⟩ := q
  refine ⟨G, io, st, env, ok, er, w.bind.impR fun st1 io1 H1 u ok1 e1 w1 v rv => ?_⟩
  cases hd : dTof u with
  | none => rw [hd] at w1; exact w1.elim
  | some p =>
    obtain ⟨kk, us⟩ := p
    rw [hd] at w1
    simp only at w1
    -- the dict
    obtain ⟨a, kvs, rfl, hR, nW, hk1, rus⟩ : ∃ a kvs, v = .ref a ∧ H1 a = some (.dT kvs) ∧ ¬ Wf G io1 a ∧ kk = kvs.map (·.1) ∧ Reps X.K (Wf G io1) io1 H1 us (kvs.map (·.2)) := by
      unfold dTof at hd
      split at hd
      · rename_i k0 ks us'
        cases hq : keysT (k0 :: ks) with
        | none => rw [hq] at hd; cases hd
        | some kk' =>
          rw [hq] at hd
          cases hd
          unfold Rep at rv
          obtain ⟨a, vs, rfl, ⟨nW, ld⟩, rs⟩ := rv
          rcases ld with ⟨kvs, _, e2, _⟩ | ⟨kvs, e1, e2, e3⟩
          · exfalso
            cases kvs with
            | nil => cases e2
            | cons p r =>
              rw [List.map_cons] at e2
              have : k0 = kU p.1 := (List.cons.inj e2).1
              unfold keysT at hq
              have hkn : keyT (kU p.1) = none := by cases p.1 <;> rfl
              rw [this, hkn] at hq
              simp at hq
          · have : keysT (k0 :: ks) = some (kvs.map (·.1)) := by
              rw [e2, ← keysT_kU (kvs.map (·.1)), List.map_map]; rfl
            rw [hq] at this
            cases this
            subst e3
            exact ⟨a, kvs, rfl, e1, nW, rfl, rs⟩
      · cases hd
    refine ⟨a, rfl, .inr ⟨kvs, .inl hR⟩, ?_⟩
    have er1 := er.ext ok.dj e1
    refine ⟨G, io1, st1, env, ok1, er1, w1.bind.impR fun st2 io2 H2 key ok2 e2 w2 ws rws => ?_⟩
    split at w2
    · rename_i hz
      refine ⟨by rw [← rws.length]; exact hz, fun b hb => ?_⟩
      have s3 : Same H2 (upd H2 b (.tup ws)) := same_upd hb
      have ok3 := ok2.same s3
      have e3 : Ext io2 H2 io2 (upd H2 b (.tup ws)) := Ext.same s3
      refine ⟨G, io2, st2, env, ok3, (er1.ext ok1.dj e2).ext ok2.dj e3, (Wants.later w2.bind e3).impR fun st4 io4 H4 d ok4 e4 w4 z rz => ?_⟩
      split at w4
      · rename_i k hk
        have nb : b ∉ io2 := fun z => ok2.fresh hb (.inr z)
        have hb4 : H4 b = some (.tup (k.map kV)) := by
          have := e4.keep b _ nb upd_same
          rw [this, kOfs_rep rws hk]
        have eX := (e2.trans e3).trans e4
        have hR4 : H4 a = some (.dT kvs) := eX.keep a _ (fun z => nW (.inr z)) hR
        refine ⟨valV kvs k, .inr ⟨kvs, k, b, .inl hR4, rfl, hb4, rfl⟩, ?_⟩
        have fr := findT_rep k (rus.ext eX)
        rw [hk1] at w4
        cases hv : valV kvs k with
        | none =>
          rw [hv] at fr
          simp only at fr
          rw [fr] at w4
          exact w4.here ok4 z rz
        | some y =>
          rw [hv] at fr
          obtain ⟨u', f1, f2⟩ := fr
          rw [f1] at w4
          exact w4.here ok4 y f2
      · exact w4.elim
    · exact w2.elim
end
/-! ### {(a, b): x, ..} -/
def mergeT (kvs : List (List Key × V)) : List (List Key × V) := kvs.foldl (fun acc kv => putK acc kv.1 kv.2) []
def tDispT (trs : List (TE × TE)) : TE := fun σ H Q => ∀ p, H p = none → tPairs trs σ (upd H p (.dT [])) fun ps H2 => H2 p = some (.dT []) ∧ ∃ kvs : List (List Key × V), Paired (fun (q : V × V) (kv : List Key × V) => (∃ b, q.1 = .ref b ∧ H2 b = some (.tup (kv.1.map kV))) ∧ q.2 = kv.2) ps kvs ∧ kvs.length ≤ 15 ∧ Q (.ref p) (upd H2 p (.dT (mergeT kvs)))
theorem carriesT {P : Program} {w : World} {H : Hp} {h : Heap} (ok : HOk P w H h) : ∀ {ps : List (V × V)} {kvs : List (List Key × V)} {ws : List (Value × Value)}, Paired (fun (q : V × V) (kv : List Key × V) => (∃ b, q.1 = .ref b ∧ H b = some (.tup (kv.1.map kV))) ∧ q.2 = kv.2) ps kvs → VV ps ws → ∃ xs, CarriesH (tupleKind (mixKind P w)) h ws xs ∧ L2.KT H kvs xs
  | _, _, _, .nil, r => by cases r; exact ⟨[], trivial, .nil⟩
  | _, _, _, .cons (a := q) (b := kv) h t, r => by
    cases r with
    | @cons _ c _ cs h2 t2 =>
      obtain ⟨xs, c1, c2⟩ := carriesT ok t t2
      obtain ⟨⟨b, e1, e2⟩, e3⟩ := h
      obtain ⟨c1', c2'⟩ := c
      have r1 : c1' = Value.ref b := by have := h2.1; rw [e1] at this; exact this
      subst r1
      exact ⟨(kv.1, b, c2') :: xs, ⟨rfl, rfl, key_of ok e2, c1⟩, .cons ⟨rfl, e2, by rw [← e3]; exact h2.2⟩ c2⟩
theorem kt_merge {H : Hp} : ∀ {kvs : List (List Key × V)} {xs : List (List Key × Addr × Value)} {a : List (List Key × V)} {b : List (List Key × Addr × Value)}, L2.KT H kvs xs → L2.KT H a b → L2.KT H (kvs.foldl (fun acc kv => putK acc kv.1 kv.2) a) (storedAllH b xs)
  | _, _, _, _, .nil, h => h
  | _, _, a, b, .cons (a := p) (b := q) h t, h' => by
    have e := h'.put p.1 h.2.1 h.2.2
    show L2.KT H (List.foldl _ (putK a p.1 p.2) _) (storedAllH (storedH b q.1 q.2.1 q.2.2) _)
    rw [← h.1]
    exact kt_merge t e
theorem len_mergeT : ∀ (kvs a : List (List Key × V)), (kvs.foldl (fun acc kv => putK acc kv.1 kv.2) a).length ≤ a.length + kvs.length
  | [], a => Nat.le_refl _
  | p :: r, a => by
    have h1 := len_mergeT r (putK a p.1 p.2)
    have h2 := length_putK a p.1 p.2
    rw [List.foldl_cons, List.length_cons]; omega
section
variable {X : Cx} {xs : XS} {wx : WX} {pos : Pos}
theorem pe_dispT {keys : List (Option Expr)} {values : List Expr} {trs : List (TE × TE)} (hu : X.A.units + 1 < cLine) (h : PPs X pos keys values trs) (hall : keys.all (·.isSome) = true) (hl : keys.length = values.length) (h0 : keys ≠ [])
    (h15 : keys.length ≤ 15) : PE X (.Dict keys values pos) (tDispT trs) := by
  refine ⟨fun pins s σ H Q I q => ?_⟩
  have hn := I.hok.fresh (Nat.le_refl s.heap.objs.size)
  have I1 := I.laid (a := s.heap.objs.size) (o := .dT []) (h' := s.heap.push { cls := .type "dict", data := .dict #[] }) (t' := s.toks) (fun _ _ q => Heap.get?_push_of_some _ q) (Nat.le_refl _) (dt_empty s.heap I.big)
  have hp := pairTrees_length keys values X.env pos hall hl
  have hp0 : pairTrees keys values X.env pos ≠ [] := fun e => h0 (List.length_eq_zero_iff.mp (by rw [e] at hp; exact hp.symm))
  rw [arm_eval_Dict, zip_pairTrees keys values X.env pos hall hl, dictDisplay_pairs (pairTrees keys values X.env pos) hp0 (by rw [hp]; omega)]
  refine wpAny_bind (wpAny_standAt (wpAny_bind (wpAny_subDictH (knd := tupleKind (mixKind X.prog X.w)) (Q := fun d s' => wpAny (model X.prog X.w) X.A (pure (Value.ref d)) (EP X pins σ Q) X.xe s') (show X.A.units < cLine by omega) (by rw [hp]; exact h15)
    (thn (h.run pins _ σ _ _ I1 (q _ hn)) fun ws s2 ⟨ps, H2, I2, rel, e, kvs, ep, lk, q2⟩ => ?_))))
  obtain ⟨rs, c, rk⟩ := carriesT I2.hok ep rel
  obtain ⟨z, hd, xs0, r0, dd⟩ := dt_of I2.hok e
  cases r0
  refine ⟨rs, c, dd, fun h' tk dd' hs => wpAny_pure ⟨.ref s.heap.objs.size, _, ?_, rfl, q2⟩⟩
  have hz : (mergeT kvs).length ≤ sizeLine := by
    have h1 := len_mergeT kvs []
    rw [List.length_nil] at h1
    rw [sizeLine_eq]; unfold mergeT; omega
  obtain ⟨ob, es, ep', hq, h2, h3, h4, _, h5⟩ := dd'
  refine d_write I2 (by rw [e]; exact True.intro) hs ⟨ob, hq⟩ ⟨hz, hd, _, (kt_merge rk .nil).keeps fun c ys ec => ?_, ob, es, ep', hq, h2, h3, h4, h5⟩
  rw [upd_ne (ne_of ec e (fun z => nomatch z))]
  exact ec
def keyedT : List (List U × U) → Option (List (List Key × U))
  | [] => some []
  | p :: r => match kOfs p.1, keyedT r with
    | some k, some l => some ((k, p.2) :: l)
    | _, _ => none
def dispTU (l : List (List U × U)) : Option U := (keyedT l).bind fun kvs => if kvs.length ≤ 15 ∧ (kvs.map (·.1)).Nodup then some (.dct (kvs.map fun p => .tup (p.1.map kU)) (kvs.map (·.2))) else none
def pairsT : List (DA × DE) → Env → Store → Rs (List (List U × U))
  | [], _, st => .ok [] st
  | p :: r, env, st => (p.1 env st).bind fun k st1 => if k.length ≤ sizeLine then (p.2 env st1).bind fun v st2 => (pairsT r env st2).bind fun l st3 => .ok ((k, v) :: l) st3 else .bad
def dispT (ps : List (DA × DE)) : DE := fun env st => (noEx (pairsT ps env st)).bind fun l st1 => Rs.of (dispTU l) st1
/-- keys laid, values -/
def KRT (K : PySem.W.Frag) (W : Addr → Prop) (io : List Addr) (H : Hp) : List (List U × U) → List (V × V) → Prop := Paired fun p q => (∃ b vs, q.1 = .ref b ∧ ¬ W b ∧ H b = some (.tup vs) ∧ Reps K W io H p.1 vs) ∧ Rep K W io H p.2 q.2
theorem pairsT_read {K : PySem.W.Frag} {G : Addr → Prop} {sg : L2.St} {env : Env} {XR} : ∀ (ps : List (DA × DE)) {io : List Addr} {st : Store} {H : Hp} {Q : List (V × V) → Hp → Prop}, Ok K G io st H → EnvRep K G io H env sg →
    Wants K G io H (fun _ io1 H1 l => ∀ pvs, KRT K (Wf G io1) io1 H1 l pvs → Q pvs H1) XR (noEx (pairsT ps env st)) →
    tPairs (ps.map fun p => (tTup (tDA K xs wx p.1), tD K xs wx p.2)) sg H Q
  | [], io, st, H, Q, ok, er, w => Wants.here (a := ([] : List (List U × U))) w ok [] .nil
  | p :: r, io, st, H, Q, ok, er, w => by
    unfold pairsT at w
    rw [noEx_bind] at w
    refine ⟨G, io, st, env, ok, er, (Wants.noEx w.bind).impR fun st1 io1 H1 k ok1 e1 w1 vs rvs => ?_⟩
    split at w1
    · rename_i hz
      refine ⟨by rw [← rvs.length]; exact hz, fun b hb => ?_⟩
      have s3 : Same H1 (upd H1 b (.tup vs)) := same_upd hb
      have ok3 := ok1.same s3
      have e3 : Ext io1 H1 io1 (upd H1 b (.tup vs)) := Ext.same s3
      have nb : ¬ Wf G io1 b := ok1.fresh hb
      rw [noEx_bind] at w1
      have er1 := (er.ext ok.dj e1).ext ok1.dj e3
      refine ⟨G, io1, st1, env, ok3, er1, (Wants.noEx (Wants.later w1.bind e3)).impR fun st2 io2 H2 v ok2 e2 w2 y ry => ?_⟩
      rw [noEx_bind] at w2
      have k2 := e2.keep b _ (fun z => nb (.inr z)) upd_same
      refine pairsT_read r ok2 (er1.ext ok3.dj e2) (w2.bind.impR fun st3 io3 H3 l ok4 e4 w3 pvs hp => ?_)
      have n2 : ¬ Wf G io2 b := e2.notW nb upd_same
      refine Wants.here (a := (k, v) :: l) w3 ok4 _ (.cons ⟨⟨b, vs, rfl, e4.notW n2 k2, e4.keep b _ (fun z => n2 (.inr z)) k2, ((rvs.ext e3).ext e2).ext e4⟩, ry.ext e4⟩ hp)
    · exact w1.elim
theorem keyedT_rep {K : PySem.W.Frag} {W : Addr → Prop} {io : List Addr} {H : Hp} : ∀ {l : List (List U × U)} {kvs : List (List Key × U)} {ps : List (V × V)}, keyedT l = some kvs → KRT K W io H l ps → ∃ kvv : List (List Key × V), Paired (fun (q : V × V) (kv : List Key × V) => (∃ b, q.1 = .ref b ∧ H b = some (.tup (kv.1.map kV))) ∧ q.2 = kv.2) ps kvv ∧ kvv.map (·.1) = kvs.map (·.1) ∧ Reps K W io H (kvs.map (·.2)) (kvv.map (·.2))
  | [], _, _, e, .nil => by cases e; exact ⟨[], .nil, rfl, .nil⟩
  | p :: _, _, q :: _, e, .cons h t => by
    unfold keyedT at e
    split at e
    · rename_i k l e1 e2
      cases e
      obtain ⟨kvv, h1, h2, h3⟩ := keyedT_rep e2 t
      obtain ⟨⟨b, vs, g1, g2, g3, g4⟩, g5⟩ := h
      refine ⟨(k, q.2) :: kvv, .cons ⟨⟨b, g1, by rw [g3, kOfs_rep g4 e1]⟩, rfl⟩ h1, by rw [List.map_cons, List.map_cons, h2], .cons g5 h3⟩
    · cases e
theorem mergeT_id : ∀ (kvs a : List (List Key × V)), ((a ++ kvs).map (·.1)).Nodup → kvs.foldl (fun acc kv => putK acc kv.1 kv.2) a = a ++ kvs
  | [], a, _ => by simp
  | p :: r, a, h => by
    have np : ¬ (a.any fun kv => decide (kv.1 = p.1)) = true := by
      rw [List.any_eq_true]
      rintro ⟨x, hx, e⟩
      have e : x.1 = p.1 := of_decide_eq_true e
      rw [List.map_append, List.map_cons] at h
      have := (List.nodup_append.mp h).2.2 x.1 (List.mem_map_of_mem hx) p.1 (List.mem_cons_self ..)
      exact this e
    rw [List.foldl_cons]
    have : putK a p.1 p.2 = a ++ [p] := by unfold putK; rw [if_neg np]
    rw [this, mergeT_id r (a ++ [p]) (by rw [List.append_assoc]; exact h), List.append_assoc]
    rfl
theorem d_dispT {keys : List (Option Expr)} {values : List Expr} {ps : List (DA × DE)} (hu : X.A.units + 1 < cLine) (h : PPs X pos keys values (ps.map fun p => (tTup (tDA X.K xs wx p.1), tD X.K xs wx p.2))) (hall : keys.all (·.isSome) = true := by rfl) (hl : keys.length = values.length := by rfl) (h0 : keys ≠ [] := by simp) (h15 : keys.length ≤ 15 := by decide) :
    PE X (.Dict keys values pos) (tD X.K xs wx (dispT ps)) := pe_imp (pe_dispT hu h hall hl h0 h15) fun sg H Q q D hD => by
  obtain ⟨G, io, st, env, ok, er, w⟩ := q
  have nG : ¬ Wf G io D := ok.fresh hD
  have hH : hid (L2.upd H D (.dT [])) D = H := by rw [hid_upd, hid_none hD]
  have okE : Ok X.K (Gd G D) io st (L2.upd H D (.dT [])) := Ok.enter (by rw [hH]; exact ok) upd_same nx_dT
  have erE : EnvRep X.K (Gd G D) io (L2.upd H D (.dT [])) env sg := EnvRep.enter (by rw [hH]; exact er)
  have nD : D ∉ io := fun z => nG (.inr z)
  refine pairsT_read (XR := XW xs wx sg) ps okE erE ?_
  have w1 := w.bind
  cases q : noEx (pairsT ps env st) with
  | bad => rw [q] at w1; exact w1.elim
  | ex c us st1 =>
    cases z : pairsT ps env st with
    | ok a b => rw [z] at q; cases q
    | ex a b c => rw [z] at q; cases q
    | bad => rw [z] at q; cases q
  | ok l st1 =>
    rw [q] at w1
    intro io1 H1 ok1 e1 pvs hp
    have d1 : H1 D = some (.dT []) := e1.keep D _ nD upd_same
    have ok2 := ok1.leave (D := D) fun z => nG (.inl z)
    have e2 : Ext io H io1 (hid H1 D) := by
      have := Ext.leave (D := D) e1
      rw [hH] at this
      exact this
    obtain ⟨u, hu, w2⟩ := (w1 io1 _ ok2 e2).pure
    unfold dispTU at hu
    cases hk : keyedT l with
    | none => rw [hk] at hu; cases hu
    | some kvs =>
      rw [hk] at hu
      have hu : (if kvs.length ≤ 15 ∧ (kvs.map (·.1)).Nodup then some (.dct (kvs.map fun p => .tup (p.1.map kU)) (kvs.map (·.2))) else none) = some u := hu
      split at hu
      · rename_i hz
        cases hu
        obtain ⟨kvv, e3, e4, r3⟩ := keyedT_rep hk hp
        have ln : kvv.length = kvs.length := by have := congrArg List.length e4; rwa [List.length_map, List.length_map] at this
        refine ⟨d1, kvv, e3, by rw [ln]; exact hz.1, ?_⟩
        have mg : mergeT kvv = kvv := by
          have := mergeT_id kvv [] (by rw [List.nil_append, e4]; exact hz.2)
          rw [List.nil_append] at this
          exact this
        rw [mg]
        have e5 : L2.upd H1 D (.dT kvv) = L2.upd (hid H1 D) D (.dT kvv) := by
          funext b
          by_cases e : b = D
          · subst e; rw [upd_same, upd_same]
          · rw [upd_ne e, upd_ne e, hid_ne e]
        rw [e5]
        refine w2.hereS ok2 (same_upd hid_same) _ ?_
        unfold Rep
        refine ⟨D, kvv.map (·.2), rfl, ⟨ok2.fresh hid_same, .inr ⟨kvv, upd_same, ?_, rfl⟩⟩, (r3.mono mono_leave).ext (Ext.same (same_upd hid_same))⟩
        have : (kvs.map fun p => U.tup (p.1.map kU)) = (kvs.map (·.1)).map fun k => U.tup (k.map kU) := by rw [List.map_map]; rfl
        rw [this, ← e4, List.map_map]
        rfl
      · cases hu
end
@[simp] theorem getTD_ap (f : DE) (ka : DA) (g : DE) (env : Env) (st : Store) : getTD f ka g env st = (f env st).bind fun u st1 => match dTof u with
  | some (kk, us) => (ka env st1).bind fun key st2 => if key.length ≤ 16777216 then (g env st2).bind fun d st3 => match kOfs key with
    | some k => .ok ((findT k kk us).getD d) st3
    | none => .bad
    else .bad
  | none => .bad := by rw [← sizeLine_val]; rfl
@[simp] theorem sFldT_ap (cs ns : List Str) (f e : DE) (env : Env) (st : Store) : sFldT cs ns f e env st = (e env st).out env fun v st1 => match v with
  | .tup us => if us.length = ns.length then putAll cs f ns us env st1 else .bad
  | _ => .bad := (rfl)
@[simp] theorem dispT_ap (ps : List (DA × DE)) (env : Env) (st : Store) : dispT ps env st = (noEx (pairsT ps env st)).bind fun l st1 => Rs.of (dispTU l) st1 := (rfl)
/-! ### making the facts -/
theorem units1 {k : Nat} {A : Around} (hr : Room k A) : A.units + 1 < cLine := by have := hr.un; omega
theorem mt_mk {P : Program} {w : World} {K : PySem.W.Frag} {mg : Str → Option Value} {base : Heap} {xs : XS} {c x qual : Str} {s : Stmt} {k n m : Nat} {body : DS} {C f : Addr} {od an : Option Addr} {sl : Array (Option Value)} {oc kV dc pm cd ct : Value} {N ps : List Str}
    (a : PySem.W.nsIn K mainGlobals c = some (some (.ref C))) (cl : Cls K C) (at_ : PySem.W.findIn K (.ref C) x = some (some (.ref f))) (fn : PySem.W.isFn K (.ref f) = true)
    (l : K.lookup f = some ⟨oc, od, .func (PySem.W.fnOf x qual (defArgs s) (defBody s) (defScope s) .none kV dc pm an cd ct), sl⟩) (co : PySem.W.codeIn K cd qual = true) (kp : PySem.W.keepIn K (.ref f) = true)
    (S : FnScope N ps (defScope s)) (hb : ∀ (us : List Value), us.length = ps.length → bindArgs (PySem.W.fnOf x qual (defArgs s) (defBody s) (defScope s) .none kV dc pm an cd ct) ⟨us, []⟩ = Pure.pure (ps.zip us)) (hn : ps.length = n) (hm : N.length = m)
    (B : ∀ f fd, Fun K x qual s f fd → FnOk P w K mg base (L2.CX P w) k f fd ps (spD K xs ps.length (runB N.length ps.length body))) : Mt P w K mg base xs c x k n (runB m n body) := by
  subst hn; subst hm
  have F := fun_mk (st := s) l co kp
  exact ⟨⟨C, f, _, ps, clsAt_of a, cl, ⟨at_, fn, kp⟩, .all hb, B f _ F⟩, fun us st h => runB_bad us st h⟩
theorem mkf_mk {P : Program} {w : World} {K : PySem.W.Frag} {mg : Str → Option Value} {base : Heap} {xs : XS} {c x qual : Str} {s : Stmt} {k n m : Nat} {body : DS} {h : Heap} (XK : K.In h) (G : h.Ns mainGlobals mg) {C f : Addr} {od an : Option Addr} {sl : Array (Option Value)} {oc kV dc pm cd ct : Value} {N ps : List Str}
    (a : PySem.W.nsIn K mainGlobals c = some (some (.ref C))) (mk : PySem.W.makesIn K C = true) (at_ : PySem.W.findIn K (.ref C) "__init__" = some (some (.ref f))) (fn : PySem.W.isFn K (.ref f) = true) (kc : PySem.W.keepIn K (.ref C) = true)
    (l : K.lookup f = some ⟨oc, od, .func (PySem.W.fnOf x qual (defArgs s) (defBody s) (defScope s) .none kV dc pm an cd ct), sl⟩) (co : PySem.W.codeIn K cd qual = true) (kp : PySem.W.keepIn K (.ref f) = true)
    (S : FnScope N ps (defScope s)) (hb : ∀ (us : List Value), us.length = ps.length → bindArgs (PySem.W.fnOf x qual (defArgs s) (defBody s) (defScope s) .none kV dc pm an cd ct) ⟨us, []⟩ = Pure.pure (ps.zip us)) (hn : ps.length = n) (hm : N.length = m)
    (B : ∀ f fd, Fun K x qual s f fd → FnOk P w K mg base (L2.CX P w) k f fd ps (spD K xs ps.length (runB N.length ps.length body))) : MkF P w K mg base xs c k n (runB m n body) := by
  subst hn; subst hm
  have F := fun_mk (st := s) l co kp
  exact ⟨⟨C, f, _, ps, PySem.W.mg_of XK G a, clsAt_of a, ⟨mk, at_, fn, kc⟩, .all hb, B f _ F⟩, fun us st h => runB_bad us st h⟩
end D
namespace C
open PySem L2 D
/-! ### loops and comprehensions of which a part is known -/
theorem comp_ex {T : Type} {t : Tg} {e : DE} {env : D.Env} {st : Store} {f : T → U} {P : U → Prop} : ∀ (l : List T), (∀ x ∈ l, ∃ a, t (f x) = some a ∧ ∃ u, e (setE env a) st = .ok u st ∧ P u) → ∃ us, compL t yesT e (l.map f) env st = .ok us st ∧ us.length = l.length ∧ ∀ u ∈ us, P u
  | [], _ => ⟨[], rfl, rfl, fun _ h => nomatch h⟩
  | x :: l, h => by
    obtain ⟨a, h1, u, h2, h3⟩ := h x (List.mem_cons_self ..)
    obtain ⟨us, e1, e2, e3⟩ := comp_ex l fun y hy => h y (List.mem_cons_of_mem _ hy)
    refine ⟨u :: us, ?_, by simp [e2], fun v hv => ?_⟩
    · rw [List.map_cons, comp_cons, h1]
      simp [h2, e1]
    · rcases List.mem_cons.mp hv with q | q
      · subst q; exact h3
      · exact e3 v q
theorem for_first {T : Type} {t : Tg} {b : DS} {st : Store} {f : T → U} (I : D.Env → Prop) (c : T → Bool) (val : T → U) : ∀ (l : List T) (env : D.Env), I env → (∀ x ∈ l, ∀ env, I env → ∃ a, t (f x) = some a ∧ if c x = true then b (setE env a) st = .rt (val x) st else ∃ env', b (setE env a) st = .nx env' st ∧ I env') →
    (∃ x, l.find? c = some x ∧ forL t b (l.map f) env st = .rt (val x) st) ∨ (l.find? c = none ∧ ∃ env', forL t b (l.map f) env st = .nx env' st ∧ I env')
  | [], env, hI, _ => .inr ⟨rfl, env, rfl, hI⟩
  | x :: l, env, hI, h => by
    obtain ⟨a, h1, h2⟩ := h x (List.mem_cons_self ..) env hI
    by_cases q : c x = true
    · rw [if_pos q] at h2
      exact .inl ⟨x, List.find?_cons_of_pos q, by rw [List.map_cons, for_cons, h1]; simp [h2]⟩
    · rw [if_neg q] at h2
      obtain ⟨env', h3, h4⟩ := h2
      rcases for_first I c val l env' h4 fun y hy => h y (List.mem_cons_of_mem _ hy) with ⟨y, e1, e2⟩ | ⟨e1, env2, e2, e3⟩
      · exact .inl ⟨y, by rw [List.find?_cons_of_neg (by simpa using q)]; exact e1, by rw [List.map_cons, for_cons, h1]; simp [h3, e2]⟩
      · exact .inr ⟨by rw [List.find?_cons_of_neg (by simpa using q)]; exact e1, env2, by rw [List.map_cons, for_cons, h1]; simp [h3, e2], e3⟩
theorem pick {A : Type} (l : List A) (i : Int) (h0 : 0 ≤ i) (h1 : i < l.length) : ∃ x ∈ l, atI l i = some x := by
  obtain ⟨n, rfl⟩ := Int.eq_ofNat_of_zero_le h0
  have hn : n < l.length := by omega
  exact ⟨l[n], List.getElem_mem hn, by rw [atI_cast]; exact List.getElem?_eq_getElem hn⟩
theorem pick_mod {A : Type} (l : List A) (d : Int) (n : Int) (hn : (l.length : Int) = n) (h : 0 < n) : ∃ x ∈ l, atI l (d % n) = some x :=
  pick l _ (Int.emod_nonneg _ (by omega)) (by rw [hn]; exact Int.emod_lt_of_pos _ h)
/-! ### a law's own look at words and leaves -/
theorem words_of {us : List U} (h : us.all wordU = true) : ∃ ws : List Str, us = ws.map U.str ∧ ∀ w ∈ ws, isWordS w = true := by
  induction us with
  | nil => exact ⟨[], rfl, fun _ h => nomatch h⟩
  | cons u us ih =>
    rw [List.all_cons, Bool.and_eq_true] at h
    obtain ⟨x, rfl, hx⟩ := wordU_str h.1
    obtain ⟨ws, rfl, hw⟩ := ih h.2
    exact ⟨x :: ws, rfl, fun w hw' => by rcases List.mem_cons.mp hw' with q | q; (subst q; exact hx); exact hw w q⟩
def upS : List Str → Bool
  | x :: y :: l => ltC x y && upS (y :: l)
  | _ => true
theorem ltC_trans {x y z : Str} (h1 : ltC x y = true) (h2 : ltC y z = true) : ltC x z = true := by
  unfold ltC at *
  rw [decide_eq_true_eq] at *
  exact List.lt_trans h1 h2
theorem ltC_irrefl (x : Str) : ltC x x = false := by
  unfold ltC
  rw [decide_eq_false_iff_not]
  exact List.lt_irrefl _
theorem up_head : ∀ (l : List Str) (x : Str), upS (x :: l) = true → ∀ y ∈ l, ltC x y = true
  | [], _, _, _, h => nomatch h
  | y :: l, x, h, z, hz => by
    unfold upS at h
    rw [Bool.and_eq_true] at h
    rcases List.mem_cons.mp hz with q | q
    · subst q; exact h.1
    · exact ltC_trans h.1 (up_head l y h.2 z q)
theorem up_pw : ∀ (l : List Str), upS l = true → l.Pairwise fun x y => ltC x y = true
  | [], _ => .nil
  | x :: l, h => .cons (up_head l x h) (up_pw l (by
      cases l with
      | nil => rfl
      | cons y l => unfold upS at h; rw [Bool.and_eq_true] at h; exact h.2))
theorem pw_up : ∀ (l : List Str), (l.Pairwise fun x y => ltC x y = true) → upS l = true
  | [], _ => rfl
  | [_], _ => rfl
  | x :: y :: l, h => by
    unfold upS
    rw [Bool.and_eq_true]
    cases h with
    | cons h1 h2 => exact ⟨h1 y (List.mem_cons_self ..), pw_up (y :: l) h2⟩
theorem ded_id : ∀ {l : List Str}, l.Nodup → dedS l = l
  | [], _ => rfl
  | x :: l, h => by
    cases h with
    | cons h1 h2 =>
      unfold dedS plusS
      rw [ded_id h2, if_neg (fun z => h1 x z rfl)]
theorem up_iff (l : List Str) : upS l = decide (l = sortS (dedS l)) := by
  cases h : upS l with
  | true =>
    have hp := up_pw l h
    have nd : l.Nodup := hp.imp fun {a b} q e => by subst e; rw [ltC_irrefl] at q; cases q
    have le : l.Pairwise leS := hp.imp fun {a b} q => by
      rw [leS_iff]
      cases z : ltC b a with
      | false => rfl
      | true => have := ltC_trans q z; rw [ltC_irrefl] at this; cases this
    have e : l = sortS (dedS l) := by
      rw [ded_id nd]
      exact (sort_perm l).symm.eq_of_pairwise (fun a b _ _ h1 h2 => leS_anti h1 h2) le (sort_sorted l)
    exact (decide_eq_true e).symm
  | false =>
    symm
    rw [decide_eq_false_iff_not]
    intro e
    have h1 : l.Pairwise leS := by rw [e]; exact sort_sorted _
    have h2 : l.Nodup := by rw [e]; exact ((sort_perm _).nodup_iff).mpr (ded_nodup _)
    have h3 : l.Pairwise fun x y => ltC x y = true := by
      have := List.Pairwise.and h1 h2
      refine this.imp fun {a b} q => ?_
      cases z : ltC a b with
      | true => rfl
      | false => exact absurd (leS_anti q.1 ((leS_iff b a).mpr z)) q.2
    rw [pw_up l h3] at h
    cases h
theorem range_all_succ (n : Nat) (p : Nat → Bool) : (List.range (n + 1)).all p = (p 0 && (List.range n).all fun k => p (k + 1)) := by
  rw [List.range_succ_eq_map, List.all_cons, List.all_map]
  rfl
theorem getD_str (ws : List Str) (k : Nat) (h : k < ws.length) : (ws.map U.str).getD k .non = .str ws[k] := by
  rw [List.getD_eq_getElem?_getD, List.getElem?_map, List.getElem?_eq_getElem h]; rfl
theorem areL_txt (ws : List Str) (h : ∀ w ∈ ws, isWordS w = true) : areL (tS ws) = (decide (ws.length ≤ 8) && decide (ws = sortS (dedS ws))) := by
  rw [← up_iff]
  unfold areL
  simp only [List.length_map]
  congr 1
  have key : ∀ (l : List Str) (x : Str), ((List.range l.length).all fun k => ltC ((x :: l).getD k Str.empty) (l.getD k Str.empty)) = upS (x :: l) := by
    intro l
    induction l with
    | nil => intro x; rfl
    | cons y l ih =>
      intro x
      rw [List.length_cons, range_all_succ]
      show (ltC x y && _) = (ltC x y && upS (y :: l))
      rw [← ih y]
      rfl
  cases ws with
  | nil => rfl
  | cons x l =>
    rw [List.length_cons, range_all_succ]
    have h0 : leafAt ((x :: l).map U.str) 0 = true := by
      unfold leafAt
      simp [wordU, h x (List.mem_cons_self ..)]
    rw [h0, Bool.true_and, ← key l x, Bool.eq_iff_iff, List.all_eq_true, List.all_eq_true]
    have each : ∀ k ∈ List.range l.length, leafAt ((x :: l).map U.str) (k + 1) = ltC ((x :: l).getD k Str.empty) (l.getD k Str.empty) := by
      intro k hk
      have hk := List.mem_range.mp hk
      unfold leafAt
      rw [getD_str (x :: l) (k + 1) (by simp; omega), Nat.add_sub_cancel, getD_str (x :: l) k (by simp; omega)]
      have e1 : (x :: l)[k + 1]'(by simp; omega) = l[k] := rfl
      have e2 : (x :: l).getD k Str.empty = (x :: l)[k]'(by simp; omega) := by
        rw [List.getD_eq_getElem?_getD, List.getElem?_eq_getElem (by simp; omega)]; rfl
      have e3 : l.getD k Str.empty = l[k] := by
        rw [List.getD_eq_getElem?_getD, List.getElem?_eq_getElem hk]; rfl
      rw [e1, e2, e3]
      simp [wordU, ltU, h _ (List.mem_cons_of_mem _ (List.getElem_mem hk))]
    exact ⟨fun q k hk => by rw [← each k hk]; exact q k hk, fun q k hk => by rw [each k hk]; exact q k hk⟩
end C
namespace C
open PySem L2 D
/-! ### rows that are rows -/
inductive Row where
  | set (x : Str) (n : Int) | same (x a : Str) | sum (x a b : Str) | less (x a b : Str) | hold (x n : Str) (as : List Str) | call (x f : Str) (as vs : List Str) | last (f : Str) (as vs : List Str) | give (a : Str)
  | keep (c a : Str) | kept (x c : Str) | skip (a : Str) (k : Int) | over (k : Int) | on | count | ask (w : Str) (k : Int) | deed (w a : Str) | done (w a : Str)
  deriving DecidableEq
def Row.u : Row → U
  | .set x n => .tup [.str (Str.ofString "set"), .str x, .int n]
  | .same x a => .tup [.str (Str.ofString "same"), .str x, .str a]
  | .sum x a b => .tup [.str (Str.ofString "sum"), .str x, .str a, .str b]
  | .less x a b => .tup [.str (Str.ofString "less"), .str x, .str a, .str b]
  | .hold x n as => .tup [.str (Str.ofString "hold"), .str x, .str n, tS as]
  | .call x f as vs => .tup [.str (Str.ofString "call"), .str x, .str f, tS as, tS vs]
  | .last f as vs => .tup [.str (Str.ofString "last"), .str f, tS as, tS vs]
  | .give a => .tup [.str (Str.ofString "give"), .str a]
  | .keep c a => .tup [.str (Str.ofString "keep"), .str c, .str a]
  | .kept x c => .tup [.str (Str.ofString "kept"), .str x, .str c]
  | .skip a k => .tup [.str (Str.ofString "skip"), .str a, .int k]
  | .over k => .tup [.str (Str.ofString "over"), .int k]
  | .on => .tup [.str (Str.ofString "on")]
  | .count => .tup [.str (Str.ofString "count")]
  | .ask w k => .tup [.str (Str.ofString "ask"), .str w, .int k]
  | .deed w a => .tup [.str (Str.ofString "deed"), .str w, .str a]
  | .done w a => .tup [.str (Str.ofString "done"), .str w, .str a]
def okN (n : Int) : Bool := decide (-1000000000000000000 ≤ n ∧ n ≤ 1000000000000000000)
def argsS (as : List Str) : Bool := decide (as.length ≤ 4) && as.all isWordS
def leavesS (ws : List Str) : Bool := areL (tS ws)
def Row.ok : Row → Bool
  | .set x n => isWordS x && okN n
  | .same x a => isWordS x && isWordS a
  | .sum x a b => isWordS x && isWordS a && isWordS b
  | .less x a b => isWordS x && isWordS a && isWordS b
  | .hold x n as => isWordS x && isWordS n && argsS as
  | .call x f as vs => isWordS x && isWordS f && argsS as && leavesS vs
  | .last f as vs => isWordS f && argsS as && leavesS vs
  | .give a => isWordS a
  | .keep c a => isWordS c && isWordS a
  | .kept x c => isWordS x && isWordS c
  | .skip a k => isWordS a && decide (0 < k)
  | .over k => decide (0 < k)
  | .on => true
  | .count => true
  | .ask w k => isWordS w && decide (0 < k)
  | .deed w a => isWordS w && isWordS a
  | .done w a => isWordS w && isWordS a
def Row.goes : Row → Int
  | .skip _ k => k
  | .over k => k
  | .ask _ k => k
  | _ => 0
def Row.leaves : Row → List Str
  | .call _ _ _ vs => vs
  | .last _ _ vs => vs
  | .ask w _ => [w]
  | .deed w _ => [w]
  | .done w _ => [w]
  | _ => []
theorem args_typed {u : U} (h : argsU u = true) : ∃ as, u = tS as ∧ argsS as = true := by
  cases u with
  | tup us =>
    have h : (decide (us.length ≤ 4) && us.all wordU) = true := h
    rw [Bool.and_eq_true] at h
    obtain ⟨ws, rfl, hw⟩ := words_of h.2
    refine ⟨ws, rfl, ?_⟩
    unfold argsS
    rw [Bool.and_eq_true, List.all_eq_true]
    exact ⟨by simpa using h.1, hw⟩
  | _ => cases h
theorem leaves_typed {u : U} (h : areL u = true) : ∃ ws, u = tS ws ∧ leavesS ws = true := by
  cases u with
  | tup us =>
    have h' : (decide (us.length ≤ 8) && (List.range us.length).all (leafAt us)) = true := h
    rw [Bool.and_eq_true, List.all_eq_true] at h'
    have : us.all wordU = true := by
      rw [List.all_eq_true]
      intro u hu
      obtain ⟨i, hi, rfl⟩ := List.getElem_of_mem hu
      have := h'.2 i (List.mem_range.mpr hi)
      unfold leafAt at this
      rw [getD_of (List.getElem?_eq_getElem hi), Bool.and_eq_true] at this
      exact this.1
    obtain ⟨ws, rfl, hw⟩ := words_of this
    exact ⟨ws, rfl, h⟩
  | _ => cases h
theorem numb_typed {u : U} (h : numbU u = true) : ∃ n, u = .int n ∧ okN n = true := by
  cases u with
  | int n => exact ⟨n, rfl, h⟩
  | _ => cases h
theorem over_typed {u : U} (h : overU u = true) : ∃ n, u = .int n ∧ decide (0 < n) = true := by
  cases u with
  | int n => exact ⟨n, rfl, h⟩
  | _ => cases h
theorem look_mem {w : Str} {ss : List Str} (h : lookS w = some ss) : (w, ss) ∈ tabS := by
  unfold lookS at h
  rw [Option.map_eq_some_iff] at h
  obtain ⟨p, h1, rfl⟩ := h
  have h2 := List.find?_some h1
  have h3 : p.1 = w := by simpa using h2
  rw [← h3]
  exact List.mem_of_find?_eq_some h1
theorem row_typed {u : U} (h : rowU u = true) : ∃ r : Row, u = r.u ∧ r.ok = true := by
  cases u with
  | tup us =>
    cases us with
    | nil => cases h
    | cons x ps =>
      cases x with
      | str w =>
        have h : (match lookS w with
          | some ss => decide (ps.length = ss.length) && (List.zipWith partU ss ps).all id
          | none => false) = true := h
        cases hl : lookS w with
        | none => rw [hl] at h; cases h
        | some ss =>
          rw [hl] at h
          simp only [Bool.and_eq_true, decide_eq_true_eq] at h
          obtain ⟨hlen, hp⟩ := h
          have hm := look_mem hl
          simp only [tabS, List.mem_cons, Prod.mk.injEq, List.not_mem_nil, or_false] at hm
          rcases hm with ⟨rfl, rfl⟩ | ⟨rfl, rfl⟩ | ⟨rfl, rfl⟩ | ⟨rfl, rfl⟩ | ⟨rfl, rfl⟩ | ⟨rfl, rfl⟩ | ⟨rfl, rfl⟩ | ⟨rfl, rfl⟩ | ⟨rfl, rfl⟩ | ⟨rfl, rfl⟩ | ⟨rfl, rfl⟩ | ⟨rfl, rfl⟩ | ⟨rfl, rfl⟩ | ⟨rfl, rfl⟩ | ⟨rfl, rfl⟩ | ⟨rfl, rfl⟩ | ⟨rfl, rfl⟩
          · match ps, hlen with
            | [a, b], _ =>
              simp [partU] at hp
              obtain ⟨x, rfl, hx⟩ := wordU_str hp.1; obtain ⟨n, rfl, hn⟩ := numb_typed hp.2
              exact ⟨.set x n, rfl, by simp [Row.ok, hx, hn]⟩
          · match ps, hlen with
            | [a, b], _ =>
              simp [partU] at hp
              obtain ⟨x, rfl, hx⟩ := wordU_str hp.1; obtain ⟨n, rfl, hn⟩ := wordU_str hp.2
              exact ⟨.same x n, rfl, by simp [Row.ok, hx, hn]⟩
          · match ps, hlen with
            | [a, b, c], _ =>
              simp [partU] at hp
              obtain ⟨x, rfl, hx⟩ := wordU_str hp.1; obtain ⟨n, rfl, hn⟩ := wordU_str hp.2.1; obtain ⟨m, rfl, hm⟩ := wordU_str hp.2.2
              exact ⟨.sum x n m, rfl, by simp [Row.ok, hx, hn, hm]⟩
          · match ps, hlen with
            | [a, b, c], _ =>
              simp [partU] at hp
              obtain ⟨x, rfl, hx⟩ := wordU_str hp.1; obtain ⟨n, rfl, hn⟩ := wordU_str hp.2.1; obtain ⟨m, rfl, hm⟩ := wordU_str hp.2.2
              exact ⟨.less x n m, rfl, by simp [Row.ok, hx, hn, hm]⟩
          · match ps, hlen with
            | [a, b, c], _ =>
              simp [partU] at hp
              obtain ⟨x, rfl, hx⟩ := wordU_str hp.1; obtain ⟨n, rfl, hn⟩ := wordU_str hp.2.1; obtain ⟨m, rfl, hm⟩ := args_typed hp.2.2
              exact ⟨.hold x n m, rfl, by simp [Row.ok, hx, hn, hm]⟩
          · match ps, hlen with
            | [a, b, c, d], _ =>
              simp [partU] at hp
              obtain ⟨x, rfl, hx⟩ := wordU_str hp.1; obtain ⟨n, rfl, hn⟩ := wordU_str hp.2.1; obtain ⟨m, rfl, hm⟩ := args_typed hp.2.2.1; obtain ⟨v, rfl, hv⟩ := leaves_typed hp.2.2.2
              exact ⟨.call x n m v, rfl, by simp [Row.ok, hx, hn, hm, hv]⟩
          · match ps, hlen with
            | [b, c, d], _ =>
              simp [partU] at hp
              obtain ⟨n, rfl, hn⟩ := wordU_str hp.1; obtain ⟨m, rfl, hm⟩ := args_typed hp.2.1; obtain ⟨v, rfl, hv⟩ := leaves_typed hp.2.2
              exact ⟨.last n m v, rfl, by simp [Row.ok, hn, hm, hv]⟩
          · match ps, hlen with
            | [a], _ =>
              simp [partU] at hp
              obtain ⟨x, rfl, hx⟩ := wordU_str hp
              exact ⟨.give x, rfl, by simp [Row.ok, hx]⟩
          · match ps, hlen with
            | [a, b], _ =>
              simp [partU] at hp
              obtain ⟨x, rfl, hx⟩ := wordU_str hp.1; obtain ⟨n, rfl, hn⟩ := wordU_str hp.2
              exact ⟨.keep x n, rfl, by simp [Row.ok, hx, hn]⟩
          · match ps, hlen with
            | [a, b], _ =>
              simp [partU] at hp
              obtain ⟨x, rfl, hx⟩ := wordU_str hp.1; obtain ⟨n, rfl, hn⟩ := wordU_str hp.2
              exact ⟨.kept x n, rfl, by simp [Row.ok, hx, hn]⟩
          · match ps, hlen with
            | [a, b], _ =>
              simp [partU] at hp
              obtain ⟨x, rfl, hx⟩ := wordU_str hp.1; obtain ⟨n, rfl, hn⟩ := over_typed hp.2
              exact ⟨.skip x n, rfl, by simp only [Row.ok, hx, hn, Bool.and_self]⟩
          · match ps, hlen with
            | [b], _ =>
              simp [partU] at hp
              obtain ⟨n, rfl, hn⟩ := over_typed hp
              exact ⟨.over n, rfl, by simp only [Row.ok, hn]⟩
          · match ps, hlen with
            | [], _ => exact ⟨.on, rfl, rfl⟩
          · match ps, hlen with
            | [], _ => exact ⟨.count, rfl, rfl⟩
          · match ps, hlen with
            | [a, b], _ =>
              simp [partU] at hp
              obtain ⟨x, rfl, hx⟩ := wordU_str hp.1; obtain ⟨n, rfl, hn⟩ := over_typed hp.2
              exact ⟨.ask x n, rfl, by simp only [Row.ok, hx, hn, Bool.and_self]⟩
          · match ps, hlen with
            | [a, b], _ =>
              simp [partU] at hp
              obtain ⟨x, rfl, hx⟩ := wordU_str hp.1; obtain ⟨n, rfl, hn⟩ := wordU_str hp.2
              exact ⟨.deed x n, rfl, by simp [Row.ok, hx, hn]⟩
          · match ps, hlen with
            | [a, b], _ =>
              simp [partU] at hp
              obtain ⟨x, rfl, hx⟩ := wordU_str hp.1; obtain ⟨n, rfl, hn⟩ := wordU_str hp.2
              exact ⟨.done x n, rfl, by simp [Row.ok, hx, hn]⟩
      | _ => cases h
  | _ => cases h
theorem argsU_txt (as : List Str) : argsU (tS as) = argsS as := by
  unfold argsU argsS
  simp only [List.length_map]
  congr 1
  rw [List.all_map]
  rfl
theorem row_back (r : Row) : rowU r.u = r.ok := by
  have lk : ∀ p ∈ tabS, lookS p.1 = some p.2 := by decide +kernel
  have a1 : ∀ as, argsU (.tup (as.map U.str)) = argsS as := argsU_txt
  have a2 : ∀ as, areL (.tup (as.map U.str)) = leavesS as := fun _ => rfl
  cases r with
  | set x n => simp [Row.u, rowU, lk (Str.ofString "set", [wWord, wNumber]) (by simp [tabS]), partU, wordU, Row.ok, numbU, okN]
  | same x a => simp [Row.u, rowU, lk (Str.ofString "same", [wWord, wWord]) (by simp [tabS]), partU, wordU, Row.ok]
  | sum x a b => simp [Row.u, rowU, lk (Str.ofString "sum", [wWord, wWord, wWord]) (by simp [tabS]), partU, wordU, Row.ok, Bool.and_assoc]
  | less x a b => simp [Row.u, rowU, lk (Str.ofString "less", [wWord, wWord, wWord]) (by simp [tabS]), partU, wordU, Row.ok, Bool.and_assoc]
  | hold x n as => simp [Row.u, rowU, lk (Str.ofString "hold", [wWord, wWord, wArgs]) (by simp [tabS]), partU, wordU, Row.ok, a1, Bool.and_assoc]
  | call x f as vs => simp [Row.u, rowU, lk (Str.ofString "call", [wWord, wWord, wArgs, wLeaves]) (by simp [tabS]), partU, wordU, Row.ok, a1, a2, Bool.and_assoc]
  | last f as vs => simp [Row.u, rowU, lk (Str.ofString "last", [wWord, wArgs, wLeaves]) (by simp [tabS]), partU, wordU, Row.ok, a1, a2, Bool.and_assoc]
  | give a => simp [Row.u, rowU, lk (Str.ofString "give", [wWord]) (by simp [tabS]), partU, wordU, Row.ok]
  | keep c a => simp [Row.u, rowU, lk (Str.ofString "keep", [wWord, wWord]) (by simp [tabS]), partU, wordU, Row.ok]
  | kept x c => simp [Row.u, rowU, lk (Str.ofString "kept", [wWord, wWord]) (by simp [tabS]), partU, wordU, Row.ok]
  | skip a k => simp [Row.u, rowU, lk (Str.ofString "skip", [wWord, Str.ofString "over"]) (by simp [tabS]), partU, wordU, Row.ok, overU]
  | over k => simp [Row.u, rowU, lk (Str.ofString "over", [Str.ofString "over"]) (by simp [tabS]), partU, wordU, Row.ok, overU]
  | on => simp [Row.u, rowU, lk (Str.ofString "on", []) (by simp [tabS]), Row.ok]
  | count => simp [Row.u, rowU, lk (Str.ofString "count", []) (by simp [tabS]), Row.ok]
  | ask w k => simp [Row.u, rowU, lk (Str.ofString "ask", [wWord, Str.ofString "over"]) (by simp [tabS]), partU, wordU, Row.ok, overU]
  | deed w a => simp [Row.u, rowU, lk (Str.ofString "deed", [wWord, wWord]) (by simp [tabS]), partU, wordU, Row.ok]
  | done w a => simp [Row.u, rowU, lk (Str.ofString "done", [wWord, wWord]) (by simp [tabS]), partU, wordU, Row.ok]
end C
namespace C
open PySem L2 D
def b_goes_over : DS := (sSeq (sIf (tst (bin in2 (bin ix2 (var 0) (cst (.int 0))) (appN szT (acons (cst (.str (Str.ofString "skip"))) (acons (cst (.str (Str.ofString "over"))) (acons (cst (.str (Str.ofString "ask"))) anil)))))) (sSeq (sRet (bin ix2 (var 0) (neg1D (cst (.int 1))))) sNil) sNil) (sSeq (sRet (cst (.int 0))) sNil))
def f_goes_over : List U → Store → Rs U := runB 1 1 b_goes_over
def t1_bad_row : DS := (sSeq (sIf (orT (notT (tst (appU f_is_row (acons (var 2) anil)))) (tst (bin gt2 (bin add2 (bin add2 (var 1) (cst (.int 1))) (appU f_goes_over (acons (var 2) anil))) (appN lenN (acons (var 0) anil))))) (sSeq (sRet (var 1)) sNil) sNil) sNil)
def b_bad_row : DS := (sSeq (sFor (itA enumerateN (acons (var 0) anil)) (tgT [1, 2]) t1_bad_row) (sSeq (sRet (cst .non)) sNil))
def f_bad_row : List U → Store → Rs U := runB 3 1 b_bad_row
def b_is_head : DS := (sSeq (sIf (orT (notT (tst (appN isiN (acons (var 0) (acons (cst (.ty "tuple")) anil))))) (tst (bin ne2 (appN lenN (acons (var 0) anil)) (cst (.int 4))))) (sSeq (sRet (cst (.bl false))) sNil) sNil) (sSeq (sUnp (tgA [1, 2, 3, 4]) (var 0)) (sSeq (sIf (orT (notT (tst (appU f_is_word (acons (var 1) anil)))) (orT (notT (tst (appU f_are_leaves (acons (var 2) anil)))) (orT (notT (tst (appU f_are_args (acons (var 3) anil)))) (tst (bin ne2 (ap1 lenSet1 (var 3)) (appN lenN (acons (var 3) anil))))))) (sSeq (sRet (cst (.bl false))) sNil) sNil) (sSeq (sRet (andV (appN isiN (acons (var 4) (acons (cst (.ty "tuple")) anil))) (chain le2 le2 (cst (.int 1)) (appN lenN (acons (var 4) anil)) (cst (.int 60))))) sNil))))
def f_is_head : List U → Store → Rs U := runB 5 1 b_is_head
def b_leaves_in : DS := (sSeq (sIf (tst (bin in2 (bin ix2 (var 0) (cst (.int 0))) (appN szT (acons (cst (.str (Str.ofString "call"))) (acons (cst (.str (Str.ofString "last"))) anil))))) (sSeq (sRet (bin ix2 (var 0) (neg1D (cst (.int 1))))) sNil) sNil) (sSeq (sIf (tst (bin in2 (bin ix2 (var 0) (cst (.int 0))) (appN szT (acons (cst (.str (Str.ofString "ask"))) (acons (cst (.str (Str.ofString "deed"))) (acons (cst (.str (Str.ofString "done"))) anil)))))) (sSeq (sRet (appN szT (acons (bin ix2 (var 0) (cst (.int 1))) anil))) sNil) sNil) (sSeq (sRet (appN szT anil)) sNil)))
def f_leaves_in : List U → Store → Rs U := runB 1 1 b_leaves_in
def t1_words_of : DS := (sSeq (sExt 1 (appU f_leaves_in (acons (var 2) anil))) sNil)
def b_words_of : DS := (sSeq (sOwn 1 (itA lstL (acons (bin ix2 (var 0) (cst (.int 1))) anil))) (sSeq (sFor (itemsD (bin ix2 (var 0) (cst (.int 3)))) (tgN 2) t1_words_of) (sSeq (frzS 1 (sRet (var 1))) sNil)))
def f_words_of : List U → Store → Rs U := runB 3 1 b_words_of
def t1_roster_in : DS := (sSeq (sExt 1 (appU f_words_of (acons (var 2) anil))) sNil)
def b_roster_in : DS := (sSeq (sOwn 1 (szDL anil)) (sSeq (sFor (itemsD (var 0)) (tgN 2) t1_roster_in) (sSeq (frzS 1 (sRet (appN tupN (acons (newL (itE sortSet1 (var 1))) anil)))) sNil)))
def f_roster_in : List U → Store → Rs U := runB 3 1 b_roster_in
def t1_look_at_book (R : DA → DS) : DS := (sSeq (sIf (orT (notT (tst (appU f_is_head (acons (var 2) anil)))) (tst (bin in2 (bin ix2 (var 2) (cst (.int 0))) (newL (compD (itemsD (slD (var 0) noO (soO (var 1)))) [4] (tgN 4) yesT (bin ix2 (var 4) (cst (.int 0)))))))) (sSeq (R (acons (var 1) (acons (cst .non) anil))) sNil) sNil) (sSeq (sSet 3 (appU f_bad_row (acons (bin ix2 (var 2) (cst (.int 3))) anil))) (sSeq (sIf (tst (bin isnot2 (var 3) (cst .non))) (sSeq (R (acons (var 1) (acons (var 3) anil))) sNil) sNil) sNil)))
def b_look_at_book (R : DA → DS) : DS := (sSeq (sIf (orT (notT (tst (appN isiN (acons (var 0) (acons (cst (.ty "list")) anil))))) (notT (tst (chain le2 le2 (cst (.int 1)) (appN lenN (acons (var 0) anil)) (cst (.int 12)))))) (sSeq (R (acons (cst .non) (acons (cst .non) anil))) sNil) sNil) (sSeq (sFor (itA enumerateN (acons (var 0) anil)) (tgT [1, 2]) (t1_look_at_book R)) (sSeq (sIf (tst (bin gt2 (appN lenN (acons (appU f_roster_in (acons (var 0) anil)) anil)) (cst (.int 8)))) (sSeq (R (acons (cst .non) (acons (cst .non) anil))) sNil) sNil) sNil)))
def f_look_at_book (R : DA → DS) : List U → Store → Rs U := runB 5 1 (b_look_at_book R)
/-! ### what a row goes over, its leaves -/
theorem in_txtL (x : Str) (ws : List Str) : in2 (.str x) (lS ws) = some (.bl (decide (x ∈ ws))) := by
  show (if flatU (.str x) && (ws.map U.str).all flatU then some (U.bl ((ws.map U.str).any fun y => eqU y (.str x))) else _) = _
  rw [flat_txt, any_txt]; rfl
theorem in3 (x a b c : Str) : in2 (.str x) (.tup [.str a, .str b, .str c]) = some (.bl (decide (x = a ∨ x = b ∨ x = c))) := by
  rw [show U.tup [.str a, .str b, .str c] = tS [a, b, c] from rfl, in_txt]; simp
theorem in2' (x a b : Str) : in2 (.str x) (.tup [.str a, .str b]) = some (.bl (decide (x = a ∨ x = b))) := by
  rw [show U.tup [.str a, .str b] = tS [a, b] from rfl, in_txt]; simp
theorem goes_ev (r : Row) (st : Store) : f_goes_over [r.u] st = .ok (.int r.goes) st := by
  unfold f_goes_over b_goes_over
  cases r <;> simp [Row.u, Row.goes, in3]
theorem leaves_in_ev (r : Row) (st : Store) : f_leaves_in [r.u] st = .ok (tS r.leaves) st := by
  unfold f_leaves_in b_leaves_in
  cases r <;> simp [Row.u, Row.leaves, in3, in2']
/-- what a row goes over; of what is none, nothing -/
noncomputable def goesU (u : U) : Int := open Classical in if h : ∃ r : Row, u = r.u then (Classical.choose h).goes else 0
theorem Row.u_inj {r r' : Row} (h : r.u = r'.u) : r.goes = r'.goes := by
  have h1 := goes_ev r []
  have h2 := goes_ev r' []
  rw [h, h2] at h1
  simpa using h1.symm
theorem goesU_row (r : Row) : goesU r.u = r.goes := by
  unfold goesU
  have h : ∃ r' : Row, r.u = r'.u := ⟨r, rfl⟩
  rw [dif_pos h]
  exact (Row.u_inj (Classical.choose_spec h)).symm
theorem goesU_ev {u : U} (h : rowU u = true) (st : Store) : f_goes_over [u] st = .ok (.int (goesU u)) st := by
  obtain ⟨r, rfl, _⟩ := row_typed h
  rw [goesU_row, goes_ev]
/-- whether a row can stand at a place -/
noncomputable def stands (us : List U) (k : Nat) : Bool := rowU (us.getD k .non) && decide ((k : Int) + 1 + goesU (us.getD k .non) ≤ us.length)
noncomputable def badAt (us : List U) : Option Nat := (List.range us.length).find? fun k => !stands us k
def optU : Option Nat → U
  | some n => .int n
  | none => .non
theorem for_num {b : DS} {st : Store} {us : List U} (I : D.Env → Prop) (i j : Nat) (c : Nat → Bool) (val : Nat → U) (env : D.Env) (h0 : I env)
    (h : ∀ k u, us[k]? = some u → ∀ env, I env → if c k = true then b ((env.set i (.val (.int (k : Int)))).set j (.val u)) st = .rt (val k) st else ∃ env', b ((env.set i (.val (.int (k : Int)))).set j (.val u)) st = .nx env' st ∧ I env') :
    (∃ k, (List.range us.length).find? c = some k ∧ forL (tgT [i, j]) b (numU us) env st = .rt (val k) st) ∨ ((List.range us.length).find? c = none ∧ ∃ env', forL (tgT [i, j]) b (numU us) env st = .nx env' st ∧ I env') := by
  have e : numU us = (List.range us.length).map fun k => U.tup [.int (k : Nat), us.getD k .non] := by
    apply List.ext_getElem?
    intro k
    unfold numU
    rw [List.getElem?_mapIdx, List.getElem?_map]
    by_cases hk : k < us.length
    · rw [List.getElem?_range hk, List.getElem?_eq_getElem hk]
      simp [List.getD_eq_getElem?_getD, List.getElem?_eq_getElem hk]
    · rw [List.getElem?_eq_none (by omega), List.getElem?_eq_none (by simp; omega)]
      rfl
  rw [e]
  refine for_first I c val (List.range us.length) env h0 fun k hk env hI => ⟨_, tgT2_ap _ _ _ _, ?_⟩
  have hk := List.mem_range.mp hk
  have hg : us[k]? = some (us.getD k .non) := by rw [List.getD_eq_getElem?_getD, List.getElem?_eq_getElem hk]; rfl
  exact h k _ hg env hI
theorem bad_row_gen (us : List U) (T : U) (hT : T = .tup us ∨ T = .lst us) (h : us.all tame2 = true) (st : Store) : f_bad_row [T] st = .ok (optU (badAt us)) st := by
  have en : enumerateN [T] = some (numU us) := by rcases hT with rfl | rfl <;> rfl
  have ln : lenN [T] = some (.int us.length) := by rcases hT with rfl | rfl <;> rfl
  rw [List.all_eq_true] at h
  have loop := for_num (b := t1_bad_row) (st := st) (us := us) (fun env => ∃ s1 s2, env = [.val T, s1, s2]) 1 2 (fun k => !stands us k) (fun k => .int (k : Nat)) [.val T, .un, .un] ⟨_, _, rfl⟩ (fun k u hk env hI => by
    obtain ⟨s1, s2, rfl⟩ := hI
    have ed := getD_of hk
    have e1 : f_is_row [u] st = .ok (.bl (rowU u)) st := is_row_ev (h u (List.mem_of_getElem? hk)) st
    unfold t1_bad_row stands
    rw [ed]
    cases hr : rowU u with
    | false => simp [e1, hr]
    | true =>
      have e2 := goesU_ev hr st
      by_cases q : (k : Int) + 1 + goesU u ≤ us.length
      · have q' : ¬ (us.length : Int) < (k : Int) + 1 + goesU u := by omega
        simp [e1, hr, e2, ln, q, q']
      · have q' : (us.length : Int) < (k : Int) + 1 + goesU u := by omega
        simp [e1, hr, e2, ln, q, q'])
  unfold f_bad_row b_bad_row badAt
  rcases loop with ⟨k, h1, h2⟩ | ⟨h1, env', h2, s1, s2, rfl⟩
  · simp [en, h2, h1, optU]
  · simp [en, h2, h1, optU]
/-! ### heads -/
def tame3 : U → Bool
  | .tup us => us.all tame2
  | u => tame u
def tame4 : U → Bool
  | .tup us => us.all tame3
  | u => tame u
theorem tame2_1 {u : U} (h : tame2 u = true) : tame1 u = true := by
  cases u with
  | tup us =>
    have h : us.all tame1 = true := h
    show us.all tame = true
    rw [List.all_eq_true] at h ⊢
    exact fun u hu => tame1_tame (h u hu)
  | _ => exact h
theorem tame3_2 {u : U} (h : tame3 u = true) : tame2 u = true := by
  cases u with
  | tup us =>
    have h : us.all tame2 = true := h
    show us.all tame1 = true
    rw [List.all_eq_true] at h ⊢
    exact fun u hu => tame2_1 (h u hu)
  | _ => exact h
theorem tame4_3 {u : U} (h : tame4 u = true) : tame3 u = true := by
  cases u with
  | tup us =>
    have h : us.all tame3 = true := h
    show us.all tame2 = true
    rw [List.all_eq_true] at h ⊢
    exact fun u hu => tame3_2 (h u hu)
  | _ => exact h
def nodupU : U → Bool
  | .tup us => match strsU us with
    | some ws => decide ((dedS ws).length = ws.length)
    | none => false
  | _ => false
def rowsU : U → Bool
  | .tup us => decide (1 ≤ us.length ∧ us.length ≤ 60)
  | _ => false
def headU : U → Bool
  | .tup [n, o, p, r] => wordU n && areL o && argsU p && nodupU p && rowsU r
  | _ => false
theorem is_head_ev {u : U} (h : tame3 u = true) (st : Store) : f_is_head [u] st = .ok (.bl (headU u)) st := by
  unfold f_is_head b_is_head
  cases u with
  | tup us =>
    have h : us.all tame2 = true := h
    rw [List.all_eq_true] at h
    by_cases hl : us.length = 4
    · match us, hl with
      | [n, o, p, r], _ =>
        have hn := tame2_1 (h n (by simp))
        have ho := tame2_1 (h o (by simp))
        have hp := tame2_1 (h p (by simp))
        have hr := tame2_1 (h r (by simp))
        obtain ⟨t, ht⟩ := tame1_ty hr
        have e1 := is_word_any (tame1_tame hn) st
        have e2 := are_leaves_ev ho st
        have e3 := are_args_ev hp st
        have tg4 : tgA [1, 2, 3, 4] (.tup [n, o, p, r]) = some [(1, n), (2, o), (3, p), (4, r)] := rfl
        have hh : headU (.tup [n, o, p, r]) = (wordU n && areL o && argsU p && nodupU p && rowsU r) := rfl
        rw [hh]
        cases q1 : wordU n with
        | false => simp [sUnp, tg4, e1, q1]
        | true =>
        cases q2 : areL o with
        | false => simp [sUnp, tg4, e1, q1, e2, q2]
        | true =>
        cases q3 : argsU p with
        | false => simp [sUnp, tg4, e1, q1, e2, q2, e3, q3]
        | true =>
        obtain ⟨as, rfl, has⟩ := args_typed q3
        have la : as.length ≤ 4 := by unfold argsS at has; rw [Bool.and_eq_true] at has; simpa using has.1
        have ls : lenSet1 (tS as) = some (.int (dedS as).length) := by
          unfold lenSet1
          rw [txts_txt]
          show (if _ then _ else _) = _
          rw [if_pos (by omega)]
        have nd : nodupU (tS as) = decide ((dedS as).length = as.length) := by
          show (match strsU (as.map U.str) with | some ws => _ | none => _) = _
          rw [strs_map]
        have eqi : (((dedS as).length : Int) = as.length) ↔ (dedS as).length = as.length := by omega
        by_cases q4 : (dedS as).length = as.length
        · have nd' : nodupU (tS as) = true := by rw [nd]; simpa using q4
          simp only [tS] at ls nd' e3 tg4 q3
          cases r with
          | tup rs =>
            have b1 : ((1 : Int) ≤ rs.length) ↔ 1 ≤ rs.length := by omega
            have b2 : ((rs.length : Int) ≤ 60) ↔ rs.length ≤ 60 := by omega
            by_cases c1 : 1 ≤ rs.length
            · simp [sUnp, tg4, e1, q1, e2, q2, e3, q3, ls, q4, nd', rowsU, b1, b2, c1]
            · simp [sUnp, tg4, e1, q1, e2, q2, e3, q3, ls, q4, nd', rowsU, b1, b2, c1]
          | ref n => cases ht
          | ty n => cases ht
          | _ => simp [sUnp, tg4, e1, q1, e2, q2, e3, q3, ls, q4, nd', rowsU]
        · have nd' : nodupU (tS as) = false := by rw [nd]; simpa using q4
          simp only [tS] at ls nd' e3 tg4 q3
          simp [sUnp, tg4, e1, q1, e2, q2, e3, q3, ls, eqi, q4, nd']
    · have hl' : ¬ ((us.length : Int) = 4) := by omega
      have hh : headU (.tup us) = false := by
        unfold headU
        split
        · rename_i e; cases e; exact absurd rfl hl
        · rfl
      simp [hl', hh]
  | ref n => cases h
  | ty n => cases h
  | _ => simp [headU]
/-! ### pieces, books -/
structure Piece where
  name : Str
  own : List Str
  params : List Str
  rows : List Row
def Piece.u (p : Piece) : U := .tup [.str p.name, tS p.own, tS p.params, .tup (p.rows.map Row.u)]
def Piece.words (p : Piece) : List Str := p.own ++ p.rows.flatMap Row.leaves
def bookU (b : List Piece) : U := .lst (b.map Piece.u)
theorem words_of_ev (p : Piece) (hz : p.words.length ≤ 1000000) (st : Store) : f_words_of [p.u] st = .ok (lS p.words) st := by
  obtain ⟨env', he, hI⟩ := for_lst (t := tgN 2) (b := t1_words_of) (st := st) (f := Row.u) (fun r env => ∃ (done : List Row) (s2 : Sl), p.rows = done ++ r ∧ env = [.val p.u, .own ((p.own ++ done.flatMap Row.leaves).map U.str), s2]) p.rows [.val p.u, .own (p.own.map U.str), .un] ⟨[], .un, rfl, by simp⟩ (fun x r env hx hI => by
    obtain ⟨done, s2, e1, rfl⟩ := hI
    have e2 := leaves_in_ev x st
    have hz2 : (p.own ++ done.flatMap Row.leaves).length + x.leaves.length ≤ 1000000 := by
      unfold Piece.words at hz
      rw [e1] at hz
      simp [List.flatMap_append, List.flatMap_cons] at hz ⊢
      omega
    refine ⟨_, [.val p.u, .own ((p.own ++ (done ++ [x]).flatMap Row.leaves).map U.str), .val x.u], rfl, .inl ?_, done ++ [x], _, by simp [e1], rfl⟩
    unfold t1_words_of
    have hz3 : p.own.length + (done.flatMap Row.leaves).length + x.leaves.length ≤ 16777216 := by rw [List.length_append] at hz2; omega
    simp only [tS] at e2
    simp [e2]
    simp at hz3
    simp [hz3])
  obtain ⟨done, s2, e1, rfl⟩ := hI
  rw [List.append_nil] at e1
  subst e1
  unfold f_words_of b_words_of
  have ix1 : ix2 p.u (.int 1) = some (tS p.own) := rfl
  have ix3 : ix2 p.u (.int 3) = some (.tup (p.rows.map Row.u)) := rfl
  generalize p.u = pu at *
  simp [ix1, ix3, he, frzE, frz1]
  simp [Piece.words]
def wordsB (b : List Piece) : List Str := b.flatMap Piece.words
def rosterB (b : List Piece) : List Str := sortS (dedS (wordsB b))
theorem roster_ev (b : List Piece) (hz : (wordsB b).length < 4000) (st : Store) : f_roster_in [bookU b] st = .ok (tS (rosterB b)) st := by
  obtain ⟨env', he, hI⟩ := for_lst (t := tgN 2) (b := t1_roster_in) (st := st) (f := Piece.u) (fun r env => ∃ (done : List Piece) (s2 : Sl), b = done ++ r ∧ env = [.val (bookU b), .own ((done.flatMap Piece.words).map U.str), s2]) b [.val (bookU b), .own [], .un] ⟨[], .un, rfl, rfl⟩ (fun x r env hx hI => by
    obtain ⟨done, s2, e1, rfl⟩ := hI
    have hz2 : (done.flatMap Piece.words).length + x.words.length < 4000 := by
      unfold wordsB at hz
      rw [e1] at hz
      simp [List.flatMap_append, List.flatMap_cons] at hz ⊢
      omega
    have e2 := words_of_ev x (by omega) st
    refine ⟨_, [.val (bookU b), .own (((done ++ [x]).flatMap Piece.words).map U.str), .val x.u], rfl, .inl ?_, done ++ [x], _, by simp [e1], rfl⟩
    unfold t1_roster_in
    have hz3 : (done.flatMap Piece.words).length + x.words.length ≤ 16777216 := by omega
    simp only [lS] at e2
    simp [e2]
    simp at hz3
    simp [hz3])
  obtain ⟨done, s2, e1, rfl⟩ := hI
  rw [List.append_nil] at e1
  subst e1
  unfold f_roster_in b_roster_in
  have it : items (bookU b) = some (b.map Piece.u) := rfl
  generalize bookU b = bu at *
  rw [show b.flatMap Piece.words = wordsB b from rfl] at he
  unfold rosterB
  generalize wordsB b = ws at *
  have ss : sortSet1 (.lst (ws.map U.str)) = some ((sortS (dedS ws)).map U.str) := by
    unfold sortSet1
    rw [show txts (.lst (ws.map U.str)) = some ws from strs_map _]
    show (if _ then _ else _) = _
    rw [if_pos (by omega)]
  simp [it, he, frzE, frz1, ss]
end C
namespace C
open PySem L2 D
def Stop : Out → Prop
  | .rt _ _ => True
  | .ex _ _ _ _ => True
  | .bad => True
  | _ => False
theorem Stop.seq {o : Out} (h : Stop o) (k : D.Env → Store → Out) : o.seq k = o := by
  cases o <;> first | rfl | exact h.elim
theorem for_stop {T : Type} {t : Tg} {b : DS} {st : Store} {f : T → U} (I : D.Env → Prop) (c : T → Bool) (F : T → Rs U) : ∀ (l : List T) (env : D.Env), I env → (∀ x ∈ l, (∀ y, l.find? c = some y → True) → ∀ env, I env → ∃ a, t (f x) = some a ∧ if c x = true then ∃ o, b (setE env a) st = o ∧ Stop o ∧ fin o = F x else ∃ env', b (setE env a) st = .nx env' st ∧ I env') →
    (∃ x, l.find? c = some x ∧ ∃ o, forL t b (l.map f) env st = o ∧ Stop o ∧ fin o = F x) ∨ (l.find? c = none ∧ ∃ env', forL t b (l.map f) env st = .nx env' st ∧ I env')
  | [], env, hI, _ => .inr ⟨rfl, env, rfl, hI⟩
  | x :: l, env, hI, h => by
    obtain ⟨a, h1, h2⟩ := h x (List.mem_cons_self ..) (fun _ _ => trivial) env hI
    by_cases q : c x = true
    · rw [if_pos q] at h2
      obtain ⟨o, h3, h4, h5⟩ := h2
      refine .inl ⟨x, List.find?_cons_of_pos q, o, ?_, h4, h5⟩
      rw [List.map_cons, for_cons, h1]
      simp only [h3]
      cases o <;> first | rfl | exact h4.elim
    · rw [if_neg q] at h2
      obtain ⟨env', h3, h4⟩ := h2
      rcases for_stop I c F l env' h4 (fun y hy _ => h y (List.mem_cons_of_mem _ hy) fun _ _ => trivial) with ⟨y, e1, o, e2, e3, e4⟩ | ⟨e1, env2, e2, e3⟩
      · exact .inl ⟨y, by rw [List.find?_cons_of_neg (by simpa using q)]; exact e1, o, by rw [List.map_cons, for_cons, h1]; simp [h3, e2], e3, e4⟩
      · exact .inr ⟨by rw [List.find?_cons_of_neg (by simpa using q)]; exact e1, env2, by rw [List.map_cons, for_cons, h1]; simp [h3, e2], e3⟩
/-- the same over numbered things, those ahead being known -/
theorem for_numStop {b : DS} {st : Store} {us : List U} (I : D.Env → Prop) (i j : Nat) (c : Nat → Bool) (F : Nat → Rs U) (env : D.Env) (h0 : I env)
    (h : ∀ k u, us[k]? = some u → (∀ m, m < k → c m = false) → ∀ env, I env → if c k = true then ∃ o, b ((env.set i (.val (.int (k : Int)))).set j (.val u)) st = o ∧ Stop o ∧ fin o = F k else ∃ env', b ((env.set i (.val (.int (k : Int)))).set j (.val u)) st = .nx env' st ∧ I env') :
    (∃ k, (List.range us.length).find? c = some k ∧ ∃ o, forL (tgT [i, j]) b (numU us) env st = o ∧ Stop o ∧ fin o = F k) ∨ ((List.range us.length).find? c = none ∧ ∃ env', forL (tgT [i, j]) b (numU us) env st = .nx env' st ∧ I env') := by
  have gen : ∀ (m k : Nat) (env : D.Env), k + m = us.length → (∀ n, n < k → c n = false) → I env →
      (∃ n, (List.range us.length).find? c = some n ∧ ∃ o, forL (tgT [i, j]) b ((numU us).drop k) env st = o ∧ Stop o ∧ fin o = F n) ∨ ((List.range us.length).find? c = none ∧ ∃ env', forL (tgT [i, j]) b ((numU us).drop k) env st = .nx env' st ∧ I env') := by
    intro m
    induction m with
    | zero =>
      intro k env hk hc hI
      refine .inr ⟨?_, env, ?_, hI⟩
      · rw [List.find?_eq_none]
        intro n hn
        have hn := List.mem_range.mp hn
        rw [hc n (by omega)]; exact Bool.false_ne_true
      · rw [List.drop_eq_nil_of_le (by rw [num_len]; omega)]
        rfl
    | succ m ih =>
      intro k env hk hc hI
      have hlt : k < us.length := by omega
      have hd : (numU us).drop k = .tup [.int (k : Int), us[k]] :: (numU us).drop (k + 1) := by
        rw [List.drop_eq_getElem_cons (by rw [num_len]; exact hlt)]
        congr 1
        have := List.getElem?_eq_getElem (l := numU us) (i := k) (by rw [num_len]; exact hlt)
        obtain ⟨v, h1, h2⟩ := num_get us k _ this
        rw [h2]
        rw [List.getElem?_eq_getElem hlt] at h1
        rw [Option.some.inj h1]
      have hs := h k us[k] (List.getElem?_eq_getElem hlt) hc env hI
      rw [hd, for_cons, tgT2_ap]
      by_cases q : c k = true
      · rw [if_pos q] at hs
        obtain ⟨o, h1, h2, h3⟩ := hs
        have hf : (List.range us.length).find? c = some k := by
          rw [List.find?_range_eq_some]
          exact ⟨q, List.mem_range.mpr hlt, fun n hn => by rw [hc n hn]; rfl⟩
        refine .inl ⟨k, hf, o, ?_, h2, h3⟩
        simp only [setE_cons, setE_nil, h1]
        cases o <;> first | rfl | exact h2.elim
      · rw [if_neg q] at hs
        obtain ⟨env', h1, h2⟩ := hs
        have := ih (k + 1) env' (by omega) (fun n hn => by
          by_cases e : n = k
          · subst e; simpa using q
          · exact hc n (by omega)) h2
        simp only [setE_cons, setE_nil, h1]
        exact this
  have := gen us.length 0 env (by omega) (fun n hn => absurd hn (Nat.not_lt_zero _)) h0
  simpa using this
/-! ### books looked at -/
def nameU : U → Str
  | .tup (.str n :: _) => n
  | _ => Str.empty
def rowsL : U → List U
  | .tup [_, _, _, .tup rs] => rs
  | _ => []
def fresh (us : List U) (k : Nat) : Bool := !decide (nameU (us.getD k .non) ∈ (us.take k).map nameU)
noncomputable def pieceOk (us : List U) (k : Nat) : Bool := headU (us.getD k .non) && fresh us k && (badAt (rowsL (us.getD k .non))).isNone
noncomputable def pieceWhy (us : List U) (k : Nat) : List U := [.int (k : Nat), if headU (us.getD k .non) && fresh us k then optU (badAt (rowsL (us.getD k .non))) else .non]
theorem head_shape {u : U} (h : headU u = true) : ∃ n o p rs, u = .tup [.str n, o, p, .tup rs] := by
  unfold headU at h
  split at h
  · rename_i n o p r
    simp only [Bool.and_eq_true] at h
    obtain ⟨x, rfl, _⟩ := wordU_str h.1.1.1.1
    cases r with
    | tup rs => exact ⟨x, o, p, rs, rfl⟩
    | _ => cases h.2
  · cases h
/-- how a refusal ends -/
structure Refuses (R : DA → DS) (F : List U → Rs U) (st : Store) : Prop where
  run : ∀ (a : DA) (env : D.Env) (us : List U), a env st = .ok us st → ∃ o, R a env st = o ∧ Stop o ∧ fin o = F us
theorem look_turn {R : DA → DS} {F : List U → Rs U} {st : Store} (hR : Refuses R F st) (us : List U) (hl : us.length ≤ 12) (ht : us.all tame4 = true) (k : Nat) (u : U) (hk : us[k]? = some u) (hc : ∀ m, m < k → (!pieceOk us m) = false) (s1 s2 s3 : Sl) :
    if (!pieceOk us k) = true then ∃ o, t1_look_at_book R (([.val (.lst us), s1, s2, s3, .un].set 1 (.val (.int (k : Int)))).set 2 (.val u)) st = o ∧ Stop o ∧ fin o = F (pieceWhy us k)
    else ∃ env', t1_look_at_book R (([.val (.lst us), s1, s2, s3, .un].set 1 (.val (.int (k : Int)))).set 2 (.val u)) st = .nx env' st ∧ ∃ s1 s2 s3, env' = [.val (.lst us), s1, s2, s3, .un] := by
  have hkl : k < us.length := (List.getElem?_eq_some_iff.mp hk).1
  have ed := getD_of hk
  rw [List.all_eq_true] at ht
  have hu4 := ht u (List.mem_of_getElem? hk)
  have e1 := is_head_ev (tame4_3 hu4) st
  have hpo : pieceOk us k = (headU u && fresh us k && (badAt (rowsL u)).isNone) := by unfold pieceOk; rw [ed]
  have hpw : pieceWhy us k = [.int (k : Nat), if headU u && fresh us k then optU (badAt (rowsL u)) else .non] := by unfold pieceWhy; rw [ed]
  rw [hpo, hpw]
  unfold t1_look_at_book
  cases hh : headU u with
  | false =>
    obtain ⟨o, r1, r2, r3⟩ := hR.run (acons (var 1) (acons (cst .non) anil)) [.val (.lst us), .val (.int (k : Int)), .val u, s3, .un] [.int (k : Int), .non] (by simp)
    rw [if_pos (by simp)]
    refine ⟨o, ?_, r2, by simpa using r3⟩
    simp [e1, hh, r1, r2.seq]
  | true =>
    obtain ⟨n, ow, pa, rs, rfl⟩ := head_shape hh
    have names : ∀ v ∈ us.take k, ∃ m, ix2 v (.int 0) = some (.str m) ∧ nameU v = m := by
      intro v hv
      obtain ⟨i, hi, rfl⟩ := List.getElem_of_mem hv
      rw [List.length_take] at hi
      have := hc i (by omega)
      have hp : pieceOk us i = true := by simpa using this
      unfold pieceOk at hp
      simp only [Bool.and_eq_true] at hp
      have hi' : i < us.length := by omega
      rw [getD_of (List.getElem?_eq_getElem hi')] at hp
      obtain ⟨n', o', p', rs', e⟩ := head_shape hp.1.1
      rw [List.getElem_take, e]
      exact ⟨n', rfl, rfl⟩
    have hcomp : compL (tgN 4) yesT (bin ix2 (var 4) (cst (.int 0))) ((us.take k).map id) [.val (.lst us), .val (.int (k : Int)), .val (.tup [.str n, ow, pa, .tup rs]), s3, .un] st = .ok ((us.take k).map fun v => U.str (nameU v)) st :=
      comp_allM (us.take k) fun v hv => ⟨_, rfl, by
        obtain ⟨m, q1, q2⟩ := names v hv
        have : setE [.val (.lst us), .val (.int (k : Int)), .val (.tup [.str n, ow, pa, .tup rs]), s3, .un] [(4, id v)] = [.val (.lst us), .val (.int (k : Int)), .val (.tup [.str n, ow, pa, .tup rs]), s3, .val v] := rfl
        rw [this]
        simp only [bin_ap, var_succ, var_zero, bind_ok, cst_ap, q1, of_some, q2]⟩
    rw [List.map_id] at hcomp
    have hin : in2 (.str n) (.lst ((us.take k).map fun v => U.str (nameU v))) = some (.bl (!fresh us k)) := by
      have := in_txtL n ((us.take k).map nameU)
      simp only [lS, List.map_map] at this
      rw [show (fun v => U.str (nameU v)) = U.str ∘ nameU from rfl, this]
      unfold fresh
      rw [ed, Bool.not_not]
      rfl
    have lt : min k us.length ≤ 16777216 := by omega
    cases hf : fresh us k with
    | false =>
      obtain ⟨o, r1, r2, r3⟩ := hR.run (acons (var 1) (acons (cst .non) anil)) [.val (.lst us), .val (.int (k : Int)), .val (.tup [.str n, ow, pa, .tup rs]), s3, .un] [.int (k : Int), .non] (by simp)
      rw [if_pos (by simp)]
      refine ⟨o, ?_, r2, by simpa using r3⟩
      rw [hf] at hin
      simp [e1, hh, lt, wipeE, hcomp, hin, r1, r2.seq, -List.map_take]
    | true =>
      rw [hf] at hin
      have trs : rs.all tame2 = true := by
        have h4 : tame4 (.tup [.str n, ow, pa, .tup rs]) = true := hu4
        have : [.str n, ow, pa, .tup rs].all tame3 = true := h4
        rw [List.all_eq_true] at this
        exact this (.tup rs) (by simp)
      have e2 := bad_row_gen rs (.tup rs) (.inl rfl) trs st
      have hrl : rowsL (.tup [.str n, ow, pa, .tup rs]) = rs := rfl
      rw [hrl]
      cases hb : badAt rs with
      | none =>
        rw [if_neg (by simp)]
        rw [hb] at e2
        refine ⟨[.val (.lst us), .val (.int (k : Int)), .val (.tup [.str n, ow, pa, .tup rs]), .val .non, .un], ?_, _, _, _, rfl⟩
        simp [e1, hh, lt, wipeE, hcomp, hin, e2, optU, -List.map_take]
      | some j =>
        rw [hb] at e2
        obtain ⟨o, r1, r2, r3⟩ := hR.run (acons (var 1) (acons (var 3) anil)) [.val (.lst us), .val (.int (k : Int)), .val (.tup [.str n, ow, pa, .tup rs]), .val (.int (j : Nat)), .un] [.int (k : Int), .int (j : Nat)] (by simp)
        rw [if_pos (by simp)]
        refine ⟨o, ?_, r2, by simpa [optU] using r3⟩
        simp [e1, hh, lt, wipeE, hcomp, hin, e2, optU, r1, r2.seq, -List.map_take]
/-- a book, typed -/
noncomputable def Piece.ok (p : Piece) : Bool := headU p.u && (badAt (p.rows.map Row.u)).isNone
theorem rows_typed : ∀ rs : List U, (∀ u ∈ rs, rowU u = true) → ∃ rows : List Row, rs = rows.map Row.u
  | [], _ => ⟨[], rfl⟩
  | u :: rs, h => by
    obtain ⟨rows, rfl⟩ := rows_typed rs fun v hv => h v (List.mem_cons_of_mem _ hv)
    obtain ⟨r, rfl, _⟩ := row_typed (h u (List.mem_cons_self ..))
    exact ⟨r :: rows, rfl⟩
theorem piece_typed {u : U} (h1 : headU u = true) (h2 : badAt (rowsL u) = none) : ∃ p : Piece, u = p.u ∧ p.ok = true := by
  obtain ⟨n, o, pa, rs, rfl⟩ := head_shape h1
  have h1' : (wordU (.str n) && areL o && argsU pa && nodupU pa && rowsU (.tup rs)) = true := h1
  simp only [Bool.and_eq_true] at h1'
  obtain ⟨ow, rfl, _⟩ := leaves_typed h1'.1.1.1.2
  obtain ⟨ps, rfl, _⟩ := args_typed h1'.1.1.2
  have h2 : badAt rs = none := h2
  have hr : ∀ u ∈ rs, rowU u = true := by
    intro u hu
    obtain ⟨i, hi, rfl⟩ := List.getElem_of_mem hu
    unfold badAt at h2
    rw [List.find?_eq_none] at h2
    have := h2 i (List.mem_range.mpr hi)
    have : stands rs i = true := by simpa using this
    unfold stands at this
    rw [getD_of (List.getElem?_eq_getElem hi), Bool.and_eq_true] at this
    exact this.1
  have := rows_typed rs hr
  obtain ⟨rows, rfl⟩ := this
  refine ⟨⟨n, ow, ps, rows⟩, rfl, ?_⟩
  unfold Piece.ok
  rw [Bool.and_eq_true]
  exact ⟨h1, by rw [h2]; rfl⟩
noncomputable def lookU (us : List U) : Option (List U) := if us.length < 1 ∨ 12 < us.length then some [.non, .non] else match (List.range us.length).find? (fun k => !pieceOk us k) with
  | some k => some (pieceWhy us k)
  | none => open Classical in if h : ∃ b : List Piece, us = b.map Piece.u then (if 8 < (rosterB (Classical.choose h)).length then some [.non, .non] else none) else none
theorem all_typed {us : List U} (h : (List.range us.length).find? (fun k => !pieceOk us k) = none) : ∃ b : List Piece, us = b.map Piece.u ∧ ∀ p ∈ b, p.ok = true := by
  rw [List.find?_eq_none] at h
  have hu : ∀ u ∈ us, ∃ p : Piece, u = p.u ∧ p.ok = true := by
    intro u hu
    obtain ⟨i, hi, rfl⟩ := List.getElem_of_mem hu
    have := h i (List.mem_range.mpr hi)
    have hp : pieceOk us i = true := by simpa using this
    unfold pieceOk at hp
    rw [getD_of (List.getElem?_eq_getElem hi)] at hp
    simp only [Bool.and_eq_true, Option.isNone_iff_eq_none] at hp
    exact piece_typed hp.1.1 hp.2
  clear h
  induction us with
  | nil => exact ⟨[], rfl, fun _ h => nomatch h⟩
  | cons u us ih =>
    obtain ⟨b, rfl, hb⟩ := ih fun v hv => hu v (List.mem_cons_of_mem _ hv)
    obtain ⟨p, rfl, hp⟩ := hu u (List.mem_cons_self ..)
    exact ⟨p :: b, rfl, fun q hq => by rcases List.mem_cons.mp hq with e | e; (subst e; exact hp); exact hb q e⟩
theorem look_list {R : DA → DS} {F : List U → Rs U} {st : Store} (hR : Refuses R F st) (us : List U) (ht : us.all tame4 = true) (hw : ∀ b : List Piece, us = b.map Piece.u → (wordsB b).length < 4000) :
    f_look_at_book R [.lst us] st = match lookU us with
      | none => .ok .non st
      | some why => F why := by
  have z1 : ((1 : Int) ≤ us.length) ↔ 1 ≤ us.length := by omega
  have z2 : ((us.length : Int) ≤ 12) ↔ us.length ≤ 12 := by omega
  unfold f_look_at_book b_look_at_book lookU
  by_cases c1 : 1 ≤ us.length
  · by_cases c2 : us.length ≤ 12
    · rw [if_neg (by omega)]
      have loop := for_numStop (b := t1_look_at_book R) (st := st) (us := us) (fun env => ∃ s1 s2 s3, env = [.val (.lst us), s1, s2, s3, .un]) 1 2 (fun k => !pieceOk us k) (fun k => F (pieceWhy us k)) [.val (.lst us), .un, .un, .un, .un] ⟨_, _, _, rfl⟩ (fun k u hk hc env hI => by
        obtain ⟨s1, s2, s3, rfl⟩ := hI
        exact look_turn hR us c2 ht k u hk hc s1 s2 s3)
      rcases loop with ⟨k, h1, o, h2, h3, h4⟩ | ⟨h1, env', h2, s1, s2, s3, rfl⟩
      · rw [h1]
        simp [z1, z2, c1, c2, h2, h3.seq, h4]
      · rw [h1]
        obtain ⟨b, rfl, hb⟩ := all_typed h1
        have hex : ∃ b' : List Piece, b.map Piece.u = b'.map Piece.u := ⟨b, rfl⟩
        simp only
        rw [dif_pos hex]
        have hs := Classical.choose_spec hex
        generalize Classical.choose hex = b' at hs
        have e1 := roster_ev b' (hw b' hs) st
        unfold bookU at e1
        rw [← hs] at e1
        generalize b.map Piece.u = us at *
        have z8 : ((8 : Int) < (rosterB b').length) ↔ 8 < (rosterB b').length := by omega
        simp only [tS] at e1
        by_cases c8 : 8 < (rosterB b').length
        · obtain ⟨o, r1, r2, r3⟩ := hR.run (acons (cst .non) (acons (cst .non) anil)) [.val (.lst us), s1, s2, s3, .un] [.non, .non] (by simp)
          simp [z1, z2, c1, c2, h2, e1, z8, c8, r1, r2.seq, r3]
        · simp [z1, z2, c1, c2, h2, e1, z8, c8]
    · obtain ⟨o, r1, r2, r3⟩ := hR.run (acons (cst .non) (acons (cst .non) anil)) [.val (.lst us), .un, .un, .un, .un] [.non, .non] (by simp)
      rw [if_pos (by omega)]
      simp [z1, z2, c1, c2, r1, r2.seq, r3]
  · obtain ⟨o, r1, r2, r3⟩ := hR.run (acons (cst .non) (acons (cst .non) anil)) [.val (.lst us), .un, .un, .un, .un] [.non, .non] (by simp)
    rw [if_pos (by omega)]
    simp [z1, z2, c1, r1, r2.seq, r3]
theorem look_none {R : DA → DS} {F : List U → Rs U} {st : Store} (hR : Refuses R F st) {u : U} {t : String} (ht : tyU u = some t) (hs : t ≠ "list") : f_look_at_book R [u] st = F [.non, .non] := by
  obtain ⟨o, r1, r2, r3⟩ := hR.run (acons (cst .non) (acons (cst .non) anil)) [.val u, .un, .un, .un, .un] [.non, .non] (by simp)
  have e1 : isiN [u, .ty "list"] = some (.bl false) := by rw [isi_ev ht (by decide)]; simp [isB, hs]
  unfold f_look_at_book b_look_at_book
  simp [e1, r1, r2.seq, r3]
/-- a good book -/
def goodB (b : List Piece) : Prop := 1 ≤ b.length ∧ b.length ≤ 12 ∧ (∀ p ∈ b, p.ok = true) ∧ (b.map Piece.name).Nodup ∧ (rosterB b).length ≤ 8
theorem word_tame {x : Str} (h : isWordS x = true) : tame (.str x) = true := by
  unfold isWordS at h
  simp only [Bool.and_eq_true, decide_eq_true_eq, List.all_eq_true] at h
  show (decide (x.length ≤ 16777216) && valid x) = true
  rw [Bool.and_eq_true, decide_eq_true_eq]
  refine ⟨by omega, ?_⟩
  unfold valid
  rw [Array.all_eq_true]
  intro i hi
  have hm : x.cps[i] ∈ letters := h.2 _ (by simp)
  have hl : ∀ c ∈ letters, c < 0x110000 := by decide +kernel
  simpa using hl _ hm
theorem words_tame {ws : List Str} (h : ∀ w ∈ ws, isWordS w = true) : (ws.map U.str).all tame = true := by
  rw [List.all_eq_true]
  intro u hu
  obtain ⟨w, hw, rfl⟩ := List.mem_map.mp hu
  exact word_tame (h w hw)
theorem args_words {as : List Str} (h : argsS as = true) : ∀ w ∈ as, isWordS w = true := by
  unfold argsS at h
  rw [Bool.and_eq_true, List.all_eq_true] at h
  exact h.2
theorem leaves_words {ws : List Str} (h : leavesS ws = true) : ∀ w ∈ ws, isWordS w = true := by
  obtain ⟨ws', e, _⟩ := leaves_typed h
  intro w hw
  unfold leavesS areL at h
  simp only [Bool.and_eq_true, List.all_eq_true, List.length_map] at h
  obtain ⟨i, hi, rfl⟩ := List.getElem_of_mem hw
  have := h.2 i (List.mem_range.mpr hi)
  unfold leafAt at this
  rw [getD_str ws i hi, Bool.and_eq_true] at this
  exact this.1
theorem leaves_len {ws : List Str} (h : leavesS ws = true) : ws.length ≤ 8 := by
  unfold leavesS areL at h
  simp only [Bool.and_eq_true, List.length_map, decide_eq_true_eq] at h
  exact h.1
theorem args_len {ws : List Str} (h : argsS ws = true) : ws.length ≤ 4 := by
  unfold argsS at h
  simp only [Bool.and_eq_true, decide_eq_true_eq] at h
  exact h.1
theorem row_tame {r : Row} (h : r.ok = true) : tame2 r.u = true := by
  have w : ∀ x : String, isWordS (Str.ofString x) = true → tame1 (.str (Str.ofString x)) = true := fun x h => word_tame h
  have w1 : ∀ x : Str, isWordS x = true → tame1 (.str x) = true := fun x h => word_tame h
  have w2 : ∀ as : List Str, (∀ x ∈ as, isWordS x = true) → tame1 (.tup (as.map U.str)) = true := fun as h => words_tame h
  have w3 : ∀ n : Int, tame1 (.int n) = true := fun _ => rfl
  have k1 : isWordS (Str.ofString "set") = true := by decide +kernel
  have k2 : isWordS (Str.ofString "same") = true := by decide +kernel
  have k3 : isWordS (Str.ofString "sum") = true := by decide +kernel
  have k4 : isWordS (Str.ofString "less") = true := by decide +kernel
  have k5 : isWordS (Str.ofString "hold") = true := by decide +kernel
  have k6 : isWordS (Str.ofString "call") = true := by decide +kernel
  have k7 : isWordS (Str.ofString "last") = true := by decide +kernel
  have k8 : isWordS (Str.ofString "give") = true := by decide +kernel
  have k9 : isWordS (Str.ofString "keep") = true := by decide +kernel
  have k10 : isWordS (Str.ofString "kept") = true := by decide +kernel
  have k11 : isWordS (Str.ofString "skip") = true := by decide +kernel
  have k12 : isWordS (Str.ofString "over") = true := by decide +kernel
  have k13 : isWordS (Str.ofString "on") = true := by decide +kernel
  have k14 : isWordS (Str.ofString "count") = true := by decide +kernel
  have k15 : isWordS (Str.ofString "ask") = true := by decide +kernel
  have k16 : isWordS (Str.ofString "deed") = true := by decide +kernel
  have k17 : isWordS (Str.ofString "done") = true := by decide +kernel
  cases r <;> simp only [Row.ok, Bool.and_eq_true] at h <;> simp [Row.u, tame2, w1, w3, *, -List.all_map]
  case hold x n as => exact w2 as (args_words h.2)
  case call x f as vs => exact ⟨w2 as (args_words h.1.2), w2 vs (leaves_words h.2)⟩
  case last f as vs => exact ⟨w2 as (args_words h.1.2), w2 vs (leaves_words h.2)⟩
theorem stands_row {rows : List Row} (h : badAt (rows.map Row.u) = none) : ∀ r ∈ rows, r.ok = true := by
  intro r hr
  obtain ⟨i, hi, rfl⟩ := List.getElem_of_mem hr
  unfold badAt at h
  rw [List.find?_eq_none] at h
  have hi' : i < (rows.map Row.u).length := by simpa using hi
  have := h i (List.mem_range.mpr hi')
  have : stands (rows.map Row.u) i = true := by simpa using this
  unfold stands at this
  rw [getD_of (List.getElem?_eq_getElem hi'), Bool.and_eq_true, List.getElem_map, row_back] at this
  exact this.1
structure POk (p : Piece) : Prop where
  name : isWordS p.name = true
  own : leavesS p.own = true
  params : argsS p.params = true
  nodup : (dedS p.params).length = p.params.length
  len1 : 1 ≤ p.rows.length
  len2 : p.rows.length ≤ 60
  rows : ∀ r ∈ p.rows, r.ok = true
  goes : ∀ k (h : k < p.rows.length), (k : Int) + 1 + (p.rows[k]).goes ≤ p.rows.length
theorem pok_iff (p : Piece) : p.ok = true ↔ POk p := by
  have hh : headU p.u = (isWordS p.name && leavesS p.own && argsU (tS p.params) && nodupU (tS p.params) && rowsU (.tup (p.rows.map Row.u))) := rfl
  have nd : nodupU (tS p.params) = decide ((dedS p.params).length = p.params.length) := by
    show (match strsU (p.params.map U.str) with | some ws => _ | none => _) = _
    rw [strs_map]
  have hr : rowsU (.tup (p.rows.map Row.u)) = decide (1 ≤ p.rows.length ∧ p.rows.length ≤ 60) := by
    unfold rowsU
    simp only [List.length_map]
  unfold Piece.ok
  rw [Bool.and_eq_true, hh, argsU_txt, nd, hr]
  simp only [Bool.and_eq_true, decide_eq_true_eq, Option.isNone_iff_eq_none]
  constructor
  · rintro ⟨⟨⟨⟨⟨h1, h2⟩, h3⟩, h4⟩, h5, h6⟩, h7⟩
    refine ⟨h1, h2, h3, h4, h5, h6, stands_row h7, fun k hk => ?_⟩
    unfold badAt at h7
    rw [List.find?_eq_none] at h7
    have hk' : k < (p.rows.map Row.u).length := by simpa using hk
    have := h7 k (List.mem_range.mpr hk')
    have : stands (p.rows.map Row.u) k = true := by simpa using this
    unfold stands at this
    rw [getD_of (List.getElem?_eq_getElem hk'), Bool.and_eq_true, List.getElem_map, goesU_row] at this
    have := of_decide_eq_true this.2
    simpa using this
  · intro h
    refine ⟨⟨⟨⟨⟨h.name, h.own⟩, h.params⟩, h.nodup⟩, h.len1, h.len2⟩, ?_⟩
    unfold badAt
    rw [List.find?_eq_none]
    intro k hk
    have hk := List.mem_range.mp hk
    have hk' : k < p.rows.length := by simpa using hk
    have e : stands (p.rows.map Row.u) k = true := by
      unfold stands
      rw [getD_of (List.getElem?_eq_getElem hk), Bool.and_eq_true, List.getElem_map, goesU_row, row_back]
      refine ⟨h.rows _ (List.getElem_mem hk'), decide_eq_true ?_⟩
      have := h.goes k hk'
      simpa using this
    simp [e]
theorem piece_tame (p : Piece) (h : p.ok = true) : tame4 p.u = true := by
  have h := (pok_iff p).mp h
  have w1 : tame3 (.str p.name) = true := word_tame h.name
  have two : ∀ ws : List Str, (∀ w ∈ ws, isWordS w = true) → tame3 (.tup (ws.map U.str)) = true := fun ws hw => by
    show (ws.map U.str).all tame2 = true
    rw [List.all_eq_true]
    intro u hu
    obtain ⟨w, hw', rfl⟩ := List.mem_map.mp hu
    exact word_tame (hw w hw')
  have w2 := two p.own (leaves_words h.own)
  have w3 := two p.params (args_words h.params)
  have w4 : tame3 (.tup (p.rows.map Row.u)) = true := by
    show (p.rows.map Row.u).all tame2 = true
    rw [List.all_eq_true]
    intro u hu
    obtain ⟨r, hr, rfl⟩ := List.mem_map.mp hu
    exact row_tame (h.rows r hr)
  show [U.str p.name, tS p.own, tS p.params, U.tup (p.rows.map Row.u)].all tame3 = true
  simp only [List.all_cons, List.all_nil, w1, w2, w3, w4, Bool.and_self]
theorem row_leaves_len {r : Row} (h : r.ok = true) : r.leaves.length ≤ 8 := by
  cases r <;> simp only [Row.ok, Bool.and_eq_true] at h <;> simp [Row.leaves]
  · exact leaves_len h.2
  · exact leaves_len h.2
theorem flat_len {A B : Type} (f : A → List B) (m : Nat) : ∀ l : List A, (∀ a ∈ l, (f a).length ≤ m) → (l.flatMap f).length ≤ l.length * m
  | [], _ => by simp
  | a :: l, h => by
    rw [List.flatMap_cons, List.length_append, List.length_cons, Nat.succ_mul]
    have := flat_len f m l fun b hb => h b (List.mem_cons_of_mem _ hb)
    have := h a (List.mem_cons_self ..)
    omega
theorem words_len {p : Piece} (h : p.ok = true) : p.words.length ≤ 8 + p.rows.length * 8 := by
  have h := (pok_iff p).mp h
  unfold Piece.words
  rw [List.length_append]
  have h1 := leaves_len h.own
  have h2 := flat_len Row.leaves 8 p.rows fun r hr => row_leaves_len (h.rows r hr)
  omega
theorem mapS_inj : ∀ {as bs : List Str}, as.map U.str = bs.map U.str → as = bs
  | [], [], _ => rfl
  | [], _ :: _, h => by simp at h
  | _ :: _, [], h => by simp at h
  | a :: as, b :: bs, h => by
    simp only [List.map_cons, List.cons.injEq, U.str.injEq] at h
    rw [h.1, mapS_inj h.2]
set_option maxHeartbeats 4000000 in
theorem rowU_inj {r r' : Row} (h : r.u = r'.u) : r = r' := by
  cases r <;> cases r' <;> simp [Row.u] at h <;> first | rfl | (simp [h]; done) | skip
  · obtain ⟨rfl, rfl, h⟩ := h; rw [mapS_inj h]
  · obtain ⟨rfl, rfl, h1, h2⟩ := h; rw [mapS_inj h1, mapS_inj h2]
  · obtain ⟨rfl, h1, h2⟩ := h; rw [mapS_inj h1, mapS_inj h2]
theorem map_inj {A B : Type} {f : A → B} (h : ∀ a b, f a = f b → a = b) : ∀ {as bs : List A}, as.map f = bs.map f → as = bs
  | [], [], _ => rfl
  | [], _ :: _, h => by simp at h
  | _ :: _, [], h => by simp at h
  | a :: as, b :: bs, e => by
    simp only [List.map_cons, List.cons.injEq] at e
    rw [h a b e.1, map_inj h e.2]
theorem pieceU_inj {p q : Piece} (h : p.u = q.u) : p = q := by
  obtain ⟨n, o, pa, rs⟩ := p
  obtain ⟨n', o', pa', rs'⟩ := q
  simp only [Piece.u, U.tup.injEq, List.cons.injEq, U.str.injEq, and_true] at h
  obtain ⟨rfl, h1, h2, h3⟩ := h
  rw [mapS_inj h1, mapS_inj h2, map_inj (fun _ _ => rowU_inj) h3]
theorem bookU_inj {a b : List Piece} (h : a.map Piece.u = b.map Piece.u) : a = b := map_inj (fun _ _ => pieceU_inj) h
theorem look_of_good {b : List Piece} (hg : goodB b) : lookU (b.map Piece.u) = none := by
  obtain ⟨h1, h2, h3, h4, h5⟩ := hg
  unfold lookU
  rw [List.length_map, if_neg (by omega)]
  have hf : (List.range b.length).find? (fun k => !pieceOk (b.map Piece.u) k) = none := by
    rw [List.find?_eq_none]
    intro k hk
    have hk := List.mem_range.mp hk
    have hk' : k < (b.map Piece.u).length := by simpa using hk
    have : pieceOk (b.map Piece.u) k = true := by
      unfold pieceOk fresh
      rw [getD_of (List.getElem?_eq_getElem hk'), List.getElem_map]
      have ho := h3 _ (List.getElem_mem hk)
      unfold Piece.ok at ho
      rw [Bool.and_eq_true] at ho
      have nm : ∀ p : Piece, nameU p.u = p.name := fun _ => rfl
      have rl : ∀ p : Piece, rowsL p.u = p.rows.map Row.u := fun _ => rfl
      rw [ho.1, rl, ho.2, nm, ← List.map_take, List.map_map]
      simp only [Bool.true_and, Bool.and_true, Bool.not_eq_true', decide_eq_false_iff_not]
      rw [show nameU ∘ Piece.u = Piece.name from rfl, List.map_take]
      intro hm
      rw [List.mem_take_iff_getElem] at hm
      obtain ⟨j, hj, e⟩ := hm
      rw [List.length_map] at hj
      have := (List.pairwise_iff_getElem.mp h4) j k (by simp; omega) (by simpa using hk) (by omega)
      apply this
      rw [e, List.getElem_map]
    rw [this]; simp
  rw [hf]
  simp only
  have hex : ∃ b' : List Piece, b.map Piece.u = b'.map Piece.u := ⟨b, rfl⟩
  rw [dif_pos hex]
  have := bookU_inj (Classical.choose_spec hex)
  rw [← this, if_neg (by omega)]
theorem look_good {R : DA → DS} {F : List U → Rs U} {st : Store} (hR : Refuses R F st) (b : List Piece) (hg : goodB b) (hw : (wordsB b).length < 4000) : f_look_at_book R [bookU b] st = .ok .non st := by
  have e := look_list hR (b.map Piece.u) (by
    rw [List.all_eq_true]
    intro u hu
    obtain ⟨p, hp, rfl⟩ := List.mem_map.mp hu
    exact piece_tame p (hg.2.2.1 p hp)) (fun b' h => by rw [← bookU_inj h]; exact hw)
  rw [look_of_good hg] at e
  exact e
theorem refuses_bad (st : Store) : Refuses (fun _ => sBad) (fun _ => .bad) st := ⟨fun a env us h => ⟨.bad, rfl, trivial, rfl⟩⟩
end C
namespace C
open PySem L2 D
/-! ### what is equal to itself -/
def eqOk : Nat → U → Bool
  | 0, _ => false
  | _ + 1, .non => true
  | _ + 1, .bl _ => true
  | _ + 1, .int _ => true
  | _ + 1, .str _ => true
  | n + 1, .tup us => us.all (eqOk n)
  | n + 1, .lst us => us.all (eqOk n)
  | _ + 1, _ => false
theorem eqZ_refl {f : U → U → Option Bool} : ∀ us : List U, (∀ u ∈ us, f u u = some true) → eqZ f us us = some true
  | [], _ => rfl
  | u :: us, h => by
    unfold eqZ
    rw [h u (List.mem_cons_self ..), eqZ_refl us fun v hv => h v (List.mem_cons_of_mem _ hv)]
    rfl
theorem eqF_refl : ∀ (n : Nat) (u : U), eqOk n u = true → eqF n u u = some true
  | 0, _, h => by cases h
  | n + 1, u, h => by
    cases u with
    | tup us =>
      have h : us.all (eqOk n) = true := h
      rw [List.all_eq_true] at h
      unfold eqF
      rw [eqZ_refl us fun u hu => eqF_refl n u (h u hu)]
      simp
    | lst us =>
      have h : us.all (eqOk n) = true := h
      rw [List.all_eq_true] at h
      unfold eqF
      rw [if_pos rfl, eqZ_refl us fun u hu => eqF_refl n u (h u hu)]
    | non => rfl
    | bl b => unfold eqF eqP; simp
    | int i => unfold eqF eqP; simp
    | str x => unfold eqF eqP; simp
    | _ => cases h
theorem eqOk_mono : ∀ (n m : Nat) (u : U), n ≤ m → eqOk n u = true → eqOk m u = true
  | 0, _, _, _, h => by cases h
  | n + 1, m, u, hm, h => by
    obtain ⟨k, rfl⟩ : ∃ k, m = k + 1 := ⟨m - 1, by omega⟩
    cases u with
    | tup us =>
      have h : us.all (eqOk n) = true := h
      show us.all (eqOk k) = true
      rw [List.all_eq_true] at h ⊢
      exact fun u hu => eqOk_mono n k u (by omega) (h u hu)
    | lst us =>
      have h : us.all (eqOk n) = true := h
      show us.all (eqOk k) = true
      rw [List.all_eq_true] at h ⊢
      exact fun u hu => eqOk_mono n k u (by omega) (h u hu)
    | non => rfl
    | bl b => rfl
    | int i => rfl
    | str x => rfl
    | _ => cases h
theorem eq2_refl {n : Nat} {u : U} (h : eqOk n u = true) (hn : n ≤ 60) : eq2 u u = some (.bl true) := by
  unfold eq2
  rw [eqF_refl 60 u (eqOk_mono n 60 u hn h)]; rfl
theorem ne2_refl {n : Nat} {u : U} (h : eqOk n u = true) (hn : n ≤ 60) : ne2 u u = some (.bl false) := by
  unfold ne2
  rw [eqF_refl 60 u (eqOk_mono n 60 u hn h)]; rfl
theorem eqOk_txt (n : Nat) (ws : List Str) : eqOk (n + 2) (tS ws) = true := by
  show (ws.map U.str).all (eqOk (n + 1)) = true
  rw [List.all_eq_true]
  intro u hu
  obtain ⟨w, _, rfl⟩ := List.mem_map.mp hu
  rfl
theorem eqOk_row (n : Nat) (r : Row) : eqOk (n + 3) r.u = true := by
  have h := eqOk_txt n
  cases r <;> simp [Row.u, eqOk, -List.all_map] <;> first | exact h _ | exact ⟨h _, h _⟩
theorem eqOk_piece (n : Nat) (p : Piece) : eqOk (n + 5) p.u = true := by
  show [U.str p.name, tS p.own, tS p.params, U.tup (p.rows.map Row.u)].all (eqOk (n + 4)) = true
  have h1 := eqOk_txt (n + 2) p.own
  have h2 := eqOk_txt (n + 2) p.params
  have h3 : eqOk (n + 4) (.tup (p.rows.map Row.u)) = true := by
    show (p.rows.map Row.u).all (eqOk (n + 3)) = true
    rw [List.all_eq_true]
    intro u hu
    obtain ⟨r, _, rfl⟩ := List.mem_map.mp hu
    exact eqOk_row n r
  simp only [List.all_cons, List.all_nil, h1, h2, h3, Bool.and_true]
  rfl
theorem eqOk_book (n : Nat) (b : List Piece) : eqOk (n + 6) (bookU b) = true := by
  show (b.map Piece.u).all (eqOk (n + 5)) = true
  rw [List.all_eq_true]
  intro u hu
  obtain ⟨r, _, rfl⟩ := List.mem_map.mp hu
  exact eqOk_piece n r
end C
namespace T_allcallers_k54_no_place
open PySem L2 D
def topS (i : Nat) : Stmt := PySem.Challenge.pw_allcallers_k54_no_place.main.body.getD i (.Pass ⟨0, 0, 0, 0⟩)
abbrev s_l_good : Stmt := topS 49
abbrev n_l_good : List Str := [Str.ofString "_law_place_here"]
theorem sc_l_good : FnScope n_l_good [Str.ofString "_law_place_here"] (defScope s_l_good) := ⟨rfl, rfl, rfl, by decide +kernel, rfl, by decide +kernel, by decide +kernel⟩
abbrev s_l_numbers : Stmt := topS 46
abbrev n_l_numbers : List Str := [Str.ofString "_law_cell_here", Str.ofString "_law_sizes", Str.ofString "_law_number", Str.ofString "_law_left", Str.ofString "_law_found", Str.ofString "_law_k", Str.ofString "_law_one"]
theorem sc_l_numbers : FnScope n_l_numbers [Str.ofString "_law_cell_here", Str.ofString "_law_sizes"] (defScope s_l_numbers) := ⟨rfl, rfl, rfl, by decide +kernel, rfl, by decide +kernel, by decide +kernel⟩
abbrev s_l_place : Stmt := topS 47
abbrev n_l_place : List Str := [Str.ofString "_law_d", Str.ofString "_law_name", Str.ofString "_law_at", Str.ofString "_law_place_here", Str.ofString "_law_odd"]
theorem sc_l_place : FnScope n_l_place [Str.ofString "_law_d"] (defScope s_l_place) := ⟨rfl, rfl, rfl, by decide +kernel, rfl, by decide +kernel, by decide +kernel⟩
abbrev s_is_whole : Stmt := topS 21
abbrev n_is_whole : List Str := [Str.ofString "thing"]
theorem sc_is_whole : FnScope n_is_whole [Str.ofString "thing"] (defScope s_is_whole) := ⟨rfl, rfl, rfl, by decide +kernel, rfl, by decide +kernel, by decide +kernel⟩
abbrev s_piece_in : Stmt := topS 37
abbrev n_piece_in : List Str := [Str.ofString "book", Str.ofString "name", Str.ofString "piece"]
theorem sc_piece_in : FnScope n_piece_in [Str.ofString "book", Str.ofString "name"] (defScope s_piece_in) := ⟨rfl, rfl, rfl, by decide +kernel, rfl, by decide +kernel, by decide +kernel⟩
abbrev s_is_place : Stmt := topS 39
abbrev n_is_place : List Str := [Str.ofString "book", Str.ofString "thing", Str.ofString "piece"]
theorem sc_is_place : FnScope n_is_place [Str.ofString "book", Str.ofString "thing"] (defScope s_is_place) := ⟨rfl, rfl, rfl, by decide +kernel, rfl, by decide +kernel, by decide +kernel⟩
abbrev s_goes_over : Stmt := topS 26
abbrev n_goes_over : List Str := [Str.ofString "row"]
theorem sc_goes_over : FnScope n_goes_over [Str.ofString "row"] (defScope s_goes_over) := ⟨rfl, rfl, rfl, by decide +kernel, rfl, by decide +kernel, by decide +kernel⟩
abbrev s_is_word : Stmt := topS 15
abbrev n_is_word : List Str := [Str.ofString "thing", Str.ofString "sign"]
theorem sc_is_word : FnScope n_is_word [Str.ofString "thing"] (defScope s_is_word) := ⟨rfl, rfl, rfl, by decide +kernel, rfl, by decide +kernel, by decide +kernel⟩
abbrev s_are_args : Stmt := topS 23
abbrev n_are_args : List Str := [Str.ofString "thing", Str.ofString "word"]
theorem sc_are_args : FnScope n_are_args [Str.ofString "thing"] (defScope s_are_args) := ⟨rfl, rfl, rfl, by decide +kernel, rfl, by decide +kernel, by decide +kernel⟩
abbrev s_are_leaves : Stmt := topS 16
abbrev n_are_leaves : List Str := [Str.ofString "thing", Str.ofString "place", Str.ofString "word"]
theorem sc_are_leaves : FnScope n_are_leaves [Str.ofString "thing"] (defScope s_are_leaves) := ⟨rfl, rfl, rfl, by decide +kernel, rfl, by decide +kernel, by decide +kernel⟩
abbrev s_is_number : Stmt := topS 22
abbrev n_is_number : List Str := [Str.ofString "thing"]
theorem sc_is_number : FnScope n_is_number [Str.ofString "thing"] (defScope s_is_number) := ⟨rfl, rfl, rfl, by decide +kernel, rfl, by decide +kernel, by decide +kernel⟩
abbrev s_is_part : Stmt := topS 24
abbrev n_is_part : List Str := [Str.ofString "sort", Str.ofString "thing"]
theorem sc_is_part : FnScope n_is_part [Str.ofString "sort", Str.ofString "thing"] (defScope s_is_part) := ⟨rfl, rfl, rfl, by decide +kernel, rfl, by decide +kernel, by decide +kernel⟩
abbrev s_is_row : Stmt := topS 25
abbrev n_is_row : List Str := [Str.ofString "thing", Str.ofString "sort", Str.ofString "part"]
theorem sc_is_row : FnScope n_is_row [Str.ofString "thing"] (defScope s_is_row) := ⟨rfl, rfl, rfl, by decide +kernel, rfl, by decide +kernel, by decide +kernel⟩
abbrev s_bad_row : Stmt := topS 33
abbrev n_bad_row : List Str := [Str.ofString "rows", Str.ofString "at", Str.ofString "row"]
theorem sc_bad_row : FnScope n_bad_row [Str.ofString "rows"] (defScope s_bad_row) := ⟨rfl, rfl, rfl, by decide +kernel, rfl, by decide +kernel, by decide +kernel⟩
abbrev s_is_head : Stmt := topS 32
abbrev n_is_head : List Str := [Str.ofString "thing", Str.ofString "name", Str.ofString "own", Str.ofString "params", Str.ofString "rows"]
theorem sc_is_head : FnScope n_is_head [Str.ofString "thing"] (defScope s_is_head) := ⟨rfl, rfl, rfl, by decide +kernel, rfl, by decide +kernel, by decide +kernel⟩
abbrev s_leaves_in : Stmt := topS 27
abbrev n_leaves_in : List Str := [Str.ofString "row"]
theorem sc_leaves_in : FnScope n_leaves_in [Str.ofString "row"] (defScope s_leaves_in) := ⟨rfl, rfl, rfl, by decide +kernel, rfl, by decide +kernel, by decide +kernel⟩
abbrev s_words_of : Stmt := topS 34
abbrev n_words_of : List Str := [Str.ofString "piece", Str.ofString "found", Str.ofString "row"]
theorem sc_words_of : FnScope n_words_of [Str.ofString "piece"] (defScope s_words_of) := ⟨rfl, rfl, rfl, by decide +kernel, rfl, by decide +kernel, by decide +kernel⟩
abbrev s_roster_in : Stmt := topS 35
abbrev n_roster_in : List Str := [Str.ofString "book", Str.ofString "found", Str.ofString "piece"]
theorem sc_roster_in : FnScope n_roster_in [Str.ofString "book"] (defScope s_roster_in) := ⟨rfl, rfl, rfl, by decide +kernel, rfl, by decide +kernel, by decide +kernel⟩
abbrev s_look_at_book : Stmt := topS 36
abbrev n_look_at_book : List Str := [Str.ofString "thing", Str.ofString "number", Str.ofString "piece", Str.ofString "row", Str.ofString "one"]
theorem sc_look_at_book : FnScope n_look_at_book [Str.ofString "thing"] (defScope s_look_at_book) := ⟨rfl, rfl, rfl, by decide +kernel, rfl, by decide +kernel, by decide +kernel⟩
abbrev s_Lists____init__ : Stmt := inClass (topS 40) 0
abbrev n_Lists____init__ : List Str := [Str.ofString "self", Str.ofString "table"]
theorem sc_Lists____init__ : FnScope n_Lists____init__ [Str.ofString "self", Str.ofString "table"] (defScope s_Lists____init__) := ⟨rfl, rfl, rfl, by decide +kernel, rfl, by decide +kernel, by decide +kernel⟩
abbrev s_Lists__standing : Stmt := inClass (topS 40) 4
abbrev n_Lists__standing : List Str := [Str.ofString "self", Str.ofString "name", Str.ofString "at"]
theorem sc_Lists__standing : FnScope n_Lists__standing [Str.ofString "self", Str.ofString "name", Str.ofString "at"] (defScope s_Lists__standing) := ⟨rfl, rfl, rfl, by decide +kernel, rfl, by decide +kernel, by decide +kernel⟩
abbrev s_verdict_in : Stmt := topS 42
abbrev n_verdict_in : List Str := [Str.ofString "table", Str.ofString "place", Str.ofString "word", Str.ofString "found", Str.ofString "leaves"]
theorem sc_verdict_in : FnScope n_verdict_in [Str.ofString "table", Str.ofString "place", Str.ofString "word"] (defScope s_verdict_in) := ⟨rfl, rfl, rfl, by decide +kernel, rfl, by decide +kernel, by decide +kernel⟩
abbrev s_verdict_at : Stmt := topS 43
abbrev n_verdict_at : List Str := [Str.ofString "book", Str.ofString "table", Str.ofString "place", Str.ofString "row"]
theorem sc_verdict_at : FnScope n_verdict_at [Str.ofString "book", Str.ofString "table", Str.ofString "place"] (defScope s_verdict_at) := ⟨rfl, rfl, rfl, by decide +kernel, rfl, by decide +kernel, by decide +kernel⟩
abbrev s_l_told : Stmt := topS 48
abbrev n_l_told : List Str := [Str.ofString "_law_book", Str.ofString "_law_place_here", Str.ofString "_law_table", Str.ofString "_law_kept", Str.ofString "_law_found", Str.ofString "e"]
theorem sc_l_told : FnScope n_l_told [Str.ofString "_law_book", Str.ofString "_law_place_here"] (defScope s_l_told) := ⟨rfl, rfl, rfl, by decide +kernel, rfl, by decide +kernel, by decide +kernel⟩
abbrev s_law : Stmt := topS 50
abbrev n_law : List Str := [Str.ofString "_law_script", Str.ofString "_law_book", Str.ofString "_law_cell_here", Str.ofString "_law_d", Str.ofString "_law_place_here"]
theorem sc_law : FnScope n_law [Str.ofString "_law_script"] (defScope s_law) := ⟨rfl, rfl, rfl, by decide +kernel, rfl, by decide +kernel, by decide +kernel⟩
def tab_PARTS : List (Str × U) := [(Str.ofString "set", (.tup [(.str (Str.ofString "word")), (.str (Str.ofString "number"))])), (Str.ofString "same", (.tup [(.str (Str.ofString "word")), (.str (Str.ofString "word"))])), (Str.ofString "sum", (.tup [(.str (Str.ofString "word")), (.str (Str.ofString "word")), (.str (Str.ofString "word"))])), (Str.ofString "less", (.tup [(.str (Str.ofString "word")), (.str (Str.ofString "word")), (.str (Str.ofString "word"))])), (Str.ofString "hold", (.tup [(.str (Str.ofString "word")), (.str (Str.ofString "word")), (.str (Str.ofString "args"))])), (Str.ofString "call", (.tup [(.str (Str.ofString "word")), (.str (Str.ofString "word")), (.str (Str.ofString "args")), (.str (Str.ofString "leaves"))])), (Str.ofString "last", (.tup [(.str (Str.ofString "word")), (.str (Str.ofString "args")), (.str (Str.ofString "leaves"))])), (Str.ofString "give", (.tup [(.str (Str.ofString "word"))])), (Str.ofString "keep", (.tup [(.str (Str.ofString "word")), (.str (Str.ofString "word"))])), (Str.ofString "kept", (.tup [(.str (Str.ofString "word")), (.str (Str.ofString "word"))])), (Str.ofString "skip", (.tup [(.str (Str.ofString "word")), (.str (Str.ofString "over"))])), (Str.ofString "over", (.tup [(.str (Str.ofString "over"))])), (Str.ofString "on", (.tup [])), (Str.ofString "count", (.tup [])), (Str.ofString "ask", (.tup [(.str (Str.ofString "word")), (.str (Str.ofString "over"))])), (Str.ofString "deed", (.tup [(.str (Str.ofString "word")), (.str (Str.ofString "word"))])), (Str.ofString "done", (.tup [(.str (Str.ofString "word")), (.str (Str.ofString "word"))]))]
/-! ### the defs as combinators -/
def b_l_good : DS := (sSeq (sIf (orT (notT (tst (appN isiN (acons (var 0) (acons (cst (.ty "tuple")) anil))))) (orT (tst (bin ne2 (appN lenN (acons (var 0) anil)) (cst (.int 2)))) (notT (tst (appN isiN (acons (bin ix2 (var 0) (cst (.int 1))) (acons (cst (.ty "int")) anil))))))) (sSeq (sRet (cst (.bl false))) sNil) sNil) (sSeq (sIf (orT (tst (appN isiN (acons (bin ix2 (var 0) (cst (.int 1))) (acons (cst (.ty "bool")) anil)))) (notT (tst (appN isiN (acons (bin ix2 (var 0) (cst (.int 0))) (acons (cst (.ty "str")) anil)))))) (sSeq (sRet (cst (.bl false))) sNil) sNil) (sSeq (sRet (bin in2 (var 0) (appN szL (acons (appN szT (acons (cst (.str (Str.ofString "one"))) (acons (cst (.int 0)) anil))) (acons (appN szT (acons (cst (.str (Str.ofString "one"))) (acons (cst (.int 2)) anil))) (acons (appN szT (acons (cst (.str (Str.ofString "two"))) (acons (cst (.int 1)) anil))) anil)))))) sNil)))
def f_l_good : List U → Store → Rs U := runB 1 1 b_l_good
def t1_l_numbers : DS := (sSeq (sIf (andT (tst (bin ge2 (var 2) (bin pow2 (cst (.int 10)) (cst (.int 18))))) (tst (bin gt2 (var 3) (cst (.int 0))))) (sSeq (sApp 4 (bin mod2 (var 3) (bin ix2 (var 1) (var 5)))) (sSeq (sSet 3 (bin fdiv2 (var 3) (bin ix2 (var 1) (var 5)))) sNil)) (sSeq (sSet 6 (bin mod2 (bin mul2 (bin add2 (bin add2 (bin mod2 (var 2) (cst (.int 2147483629))) (bin mul2 (cst (.int 7919)) (var 5))) (cst (.int 1))) (bin add2 (bin mul2 (cst (.int 2)) (var 5)) (cst (.int 48271)))) (cst (.int 2147483647)))) (sSeq (sApp 4 (bin mod2 (bin fdiv2 (bin mod2 (bin pow2 (var 6) (cst (.int 5))) (cst (.int 2147483587))) (cst (.int 16))) (bin ix2 (var 1) (var 5)))) sNil))) sNil)
def b_l_numbers : DS := (sSeq (sSet 2 (appN maxN (acons (var 0) (acons (bin sub2 (neg1D (cst (.int 1))) (var 0)) anil)))) (sSeq (sSet 3 (var 2)) (sSeq (sOwn 4 (szDL anil)) (sSeq (sFor (itA rng1 (acons (appN lenN (acons (var 1) anil)) anil)) (tgN 5) t1_l_numbers) (sSeq (sRetR 4) sNil)))))
def f_l_numbers : List U → Store → Rs U := runB 7 2 b_l_numbers
def b_l_place : DS := (sSeq (sSet 1 (bin ix2 (appN szL (acons (cst (.str (Str.ofString "one"))) (acons (cst (.str (Str.ofString "two"))) (acons (cst (.str (Str.ofString "none"))) (acons (cst (.str (Str.ofString ""))) anil))))) (ixR (var 0) (cst (.int 0))))) (sSeq (sSet 2 (bin ix2 (appN szL (acons (ixR (var 0) (cst (.int 1))) (acons (cst (.bl true)) (acons (appN strN (acons (ixR (var 0) (cst (.int 1))) anil)) (acons (neg1D (cst (.int 1))) (acons (cst (.int 60)) (acons (cst .non) (acons (appN szT (acons (cst (.int 0)) anil)) anil)))))))) (ixR (var 0) (cst (.int 2))))) (sSeq (sSet 3 (appN szT (acons (var 1) (acons (var 2) anil)))) (sSeq (sSet 4 (appN szL (acons (newL (itA lstL (acons (var 3) anil))) (acons (bin add2 (var 3) (appN szT (acons (cst (.int 1)) anil))) (acons (appN szT (acons (var 2) (acons (var 1) anil))) (acons (var 1) (acons (cst .non) (acons (cst (.int 5)) (acons (appN szT anil) (acons (cst (.dct [] [])) (acons (appN szT (acons (appN szL (acons (var 1) anil)) (acons (var 2) anil))) (acons (appN szT (acons (cst (.dct [] [])) (acons (cst (.int 0)) anil))) anil)))))))))))) (sSeq (sIf (tst (bin lt2 (ixR (var 0) (cst (.int 3))) (cst (.int 10)))) (sSeq (sRet (bin ix2 (var 4) (ixR (var 0) (cst (.int 3))))) sNil) sNil) (sSeq (sRet (var 3)) sNil))))))
def f_l_place : List U → Store → Rs U := runB 5 1 b_l_place
def b_is_whole : DS := (sSeq (sRet (andV (appN isiN (acons (var 0) (acons (cst (.ty "int")) anil))) (notV (appN isiN (acons (var 0) (acons (cst (.ty "bool")) anil)))))) sNil)
def f_is_whole : List U → Store → Rs U := runB 1 1 b_is_whole
def t1_piece_in : DS := (sSeq (sIf (tst (bin eq2 (bin ix2 (var 2) (cst (.int 0))) (var 1))) (sSeq (sRet (var 2)) sNil) sNil) sNil)
def b_piece_in : DS := (sSeq (sFor (itemsD (var 0)) (tgN 2) t1_piece_in) (sSeq (sRet (cst .non)) sNil))
def f_piece_in : List U → Store → Rs U := runB 3 2 b_piece_in
def b_is_place : DS := (sSeq (sIf (orT (notT (tst (appN isiN (acons (var 1) (acons (cst (.ty "tuple")) anil))))) (orT (tst (bin ne2 (appN lenN (acons (var 1) anil)) (cst (.int 2)))) (notT (tst (appN isiN (acons (bin ix2 (var 1) (cst (.int 0))) (acons (cst (.ty "str")) anil))))))) (sSeq (sRet (cst (.bl false))) sNil) sNil) (sSeq (sSet 2 (appU f_piece_in (acons (var 0) (acons (bin ix2 (var 1) (cst (.int 0))) anil)))) (sSeq (sRet (andV (bin isnot2 (var 2) (cst .non)) (andV (appU f_is_whole (acons (bin ix2 (var 1) (cst (.int 1))) anil)) (chain le2 lt2 (cst (.int 0)) (bin ix2 (var 1) (cst (.int 1))) (appN lenN (acons (bin ix2 (var 2) (cst (.int 3))) anil)))))) sNil)))
def f_is_place : List U → Store → Rs U := runB 3 2 b_is_place
def b_goes_over : DS := (sSeq (sIf (tst (bin in2 (bin ix2 (var 0) (cst (.int 0))) (appN szT (acons (cst (.str (Str.ofString "skip"))) (acons (cst (.str (Str.ofString "over"))) (acons (cst (.str (Str.ofString "ask"))) anil)))))) (sSeq (sRet (bin ix2 (var 0) (neg1D (cst (.int 1))))) sNil) sNil) (sSeq (sRet (cst (.int 0))) sNil))
def f_goes_over : List U → Store → Rs U := runB 1 1 b_goes_over
def b_is_word : DS := (sSeq (sIf (orT (notT (tst (appN isiN (acons (var 0) (acons (cst (.ty "str")) anil))))) (notT (tst (chain le2 le2 (cst (.int 1)) (appN lenN (acons (var 0) anil)) (cst (.int 8)))))) (sSeq (sRet (cst (.bl false))) sNil) sNil) (sSeq (sRet (appN allN (acons (newL (compD (itemsD (var 0)) [1] (tgN 1) yesT (bin in2 (var 1) (cst (.str (Str.ofString "abcdefghijklmnopqrstuvwxyz")))))) anil))) sNil))
def f_is_word : List U → Store → Rs U := runB 2 1 b_is_word
def b_are_args : DS := (sSeq (sRet (andV (appN isiN (acons (var 0) (acons (cst (.ty "tuple")) anil))) (andV (bin le2 (appN lenN (acons (var 0) anil)) (cst (.int 4))) (appN allN (acons (newL (compD (itemsD (var 0)) [1] (tgN 1) yesT (appU f_is_word (acons (var 1) anil)))) anil))))) sNil)
def f_are_args : List U → Store → Rs U := runB 2 1 b_are_args
def t1_are_leaves : DS := (sSeq (sIf (orT (notT (tst (appU f_is_word (acons (var 2) anil)))) (andT (tst (bin gt2 (var 1) (cst (.int 0)))) (tst (bin le2 (var 2) (bin ix2 (var 0) (bin sub2 (var 1) (cst (.int 1)))))))) (sSeq (sRet (cst (.bl false))) sNil) sNil) sNil)
def b_are_leaves : DS := (sSeq (sIf (orT (notT (tst (appN isiN (acons (var 0) (acons (cst (.ty "tuple")) anil))))) (tst (bin gt2 (appN lenN (acons (var 0) anil)) (cst (.int 8))))) (sSeq (sRet (cst (.bl false))) sNil) sNil) (sSeq (sFor (itA enumerateN (acons (var 0) anil)) (tgT [1, 2]) t1_are_leaves) (sSeq (sRet (cst (.bl true))) sNil)))
def f_are_leaves : List U → Store → Rs U := runB 3 1 b_are_leaves
def b_is_number : DS := (sSeq (sRet (andV (appU f_is_whole (acons (var 0) anil)) (bin le2 (appN absN (acons (var 0) anil)) (cst (.int 1000000000000000000))))) sNil)
def f_is_number : List U → Store → Rs U := runB 1 1 b_is_number
def b_is_part : DS := (sSeq (sIf (tst (bin eq2 (var 0) (cst (.str (Str.ofString "word"))))) (sSeq (sRet (appU f_is_word (acons (var 1) anil))) sNil) sNil) (sSeq (sIf (tst (bin eq2 (var 0) (cst (.str (Str.ofString "number"))))) (sSeq (sRet (appU f_is_number (acons (var 1) anil))) sNil) sNil) (sSeq (sIf (tst (bin eq2 (var 0) (cst (.str (Str.ofString "args"))))) (sSeq (sRet (appU f_are_args (acons (var 1) anil))) sNil) sNil) (sSeq (sIf (tst (bin eq2 (var 0) (cst (.str (Str.ofString "leaves"))))) (sSeq (sRet (appU f_are_leaves (acons (var 1) anil))) sNil) sNil) (sSeq (sRet (andV (appU f_is_whole (acons (var 1) anil)) (bin gt2 (var 1) (cst (.int 0))))) sNil)))))
def f_is_part : List U → Store → Rs U := runB 2 2 b_is_part
def b_is_row : DS := (sSeq (sIf (orT (notT (tst (appN isiN (acons (var 0) (acons (cst (.ty "tuple")) anil))))) (orT (tst (bin eq2 (var 0) (appN szT anil))) (notT (tst (appN isiN (acons (bin ix2 (var 0) (cst (.int 0))) (acons (cst (.ty "str")) anil))))))) (sSeq (sRet (cst (.bl false))) sNil) sNil) (sSeq (sIf (orT (tst (ap1 (tabNot tab_PARTS) (bin ix2 (var 0) (cst (.int 0))))) (tst (bin ne2 (appN lenN (acons (var 0) anil)) (bin add2 (appN lenN (acons (ap1 (tabGet tab_PARTS) (bin ix2 (var 0) (cst (.int 0)))) anil)) (cst (.int 1)))))) (sSeq (sRet (cst (.bl false))) sNil) sNil) (sSeq (sRet (appN allN (acons (newL (compD (itA zipN (acons (ap1 (tabGet tab_PARTS) (bin ix2 (var 0) (cst (.int 0)))) (acons (slD (var 0) (soO (cst (.int 1))) noO) anil))) [1, 2] (tgT [1, 2]) yesT (appU f_is_part (acons (var 1) (acons (var 2) anil))))) anil))) sNil)))
def f_is_row : List U → Store → Rs U := runB 3 1 b_is_row
def t1_bad_row : DS := (sSeq (sIf (orT (notT (tst (appU f_is_row (acons (var 2) anil)))) (tst (bin gt2 (bin add2 (bin add2 (var 1) (cst (.int 1))) (appU f_goes_over (acons (var 2) anil))) (appN lenN (acons (var 0) anil))))) (sSeq (sRet (var 1)) sNil) sNil) sNil)
def b_bad_row : DS := (sSeq (sFor (itA enumerateN (acons (var 0) anil)) (tgT [1, 2]) t1_bad_row) (sSeq (sRet (cst .non)) sNil))
def f_bad_row : List U → Store → Rs U := runB 3 1 b_bad_row
def b_is_head : DS := (sSeq (sIf (orT (notT (tst (appN isiN (acons (var 0) (acons (cst (.ty "tuple")) anil))))) (tst (bin ne2 (appN lenN (acons (var 0) anil)) (cst (.int 4))))) (sSeq (sRet (cst (.bl false))) sNil) sNil) (sSeq (sUnp (tgA [1, 2, 3, 4]) (var 0)) (sSeq (sIf (orT (notT (tst (appU f_is_word (acons (var 1) anil)))) (orT (notT (tst (appU f_are_leaves (acons (var 2) anil)))) (orT (notT (tst (appU f_are_args (acons (var 3) anil)))) (tst (bin ne2 (ap1 lenSet1 (var 3)) (appN lenN (acons (var 3) anil))))))) (sSeq (sRet (cst (.bl false))) sNil) sNil) (sSeq (sRet (andV (appN isiN (acons (var 4) (acons (cst (.ty "tuple")) anil))) (chain le2 le2 (cst (.int 1)) (appN lenN (acons (var 4) anil)) (cst (.int 60))))) sNil))))
def f_is_head : List U → Store → Rs U := runB 5 1 b_is_head
def b_leaves_in : DS := (sSeq (sIf (tst (bin in2 (bin ix2 (var 0) (cst (.int 0))) (appN szT (acons (cst (.str (Str.ofString "call"))) (acons (cst (.str (Str.ofString "last"))) anil))))) (sSeq (sRet (bin ix2 (var 0) (neg1D (cst (.int 1))))) sNil) sNil) (sSeq (sIf (tst (bin in2 (bin ix2 (var 0) (cst (.int 0))) (appN szT (acons (cst (.str (Str.ofString "ask"))) (acons (cst (.str (Str.ofString "deed"))) (acons (cst (.str (Str.ofString "done"))) anil)))))) (sSeq (sRet (appN szT (acons (bin ix2 (var 0) (cst (.int 1))) anil))) sNil) sNil) (sSeq (sRet (appN szT anil)) sNil)))
def f_leaves_in : List U → Store → Rs U := runB 1 1 b_leaves_in
def t1_words_of : DS := (sSeq (sExt 1 (appU f_leaves_in (acons (var 2) anil))) sNil)
def b_words_of : DS := (sSeq (sOwn 1 (itA lstL (acons (bin ix2 (var 0) (cst (.int 1))) anil))) (sSeq (sFor (itemsD (bin ix2 (var 0) (cst (.int 3)))) (tgN 2) t1_words_of) (sSeq (frzS 1 (sRet (var 1))) sNil)))
def f_words_of : List U → Store → Rs U := runB 3 1 b_words_of
def t1_roster_in : DS := (sSeq (sExt 1 (appU f_words_of (acons (var 2) anil))) sNil)
def b_roster_in : DS := (sSeq (sOwn 1 (szDL anil)) (sSeq (sFor (itemsD (var 0)) (tgN 2) t1_roster_in) (sSeq (frzS 1 (sRet (appN tupN (acons (newL (itE sortSet1 (var 1))) anil)))) sNil)))
def f_roster_in : List U → Store → Rs U := runB 3 1 b_roster_in
def t1_look_at_book : DS := (sSeq (sIf (orT (notT (tst (appU f_is_head (acons (var 2) anil)))) (tst (bin in2 (bin ix2 (var 2) (cst (.int 0))) (newL (compD (itemsD (slD (var 0) noO (soO (var 1)))) [4] (tgN 4) yesT (bin ix2 (var 4) (cst (.int 0)))))))) (sSeq (sRaise (Str.ofString "NoBook") [Str.ofString "piece", Str.ofString "row"] (acons (var 1) (acons (cst .non) anil))) sNil) sNil) (sSeq (sSet 3 (appU f_bad_row (acons (bin ix2 (var 2) (cst (.int 3))) anil))) (sSeq (sIf (tst (bin isnot2 (var 3) (cst .non))) (sSeq (sRaise (Str.ofString "NoBook") [Str.ofString "piece", Str.ofString "row"] (acons (var 1) (acons (var 3) anil))) sNil) sNil) sNil)))
def b_look_at_book : DS := (sSeq (sIf (orT (notT (tst (appN isiN (acons (var 0) (acons (cst (.ty "list")) anil))))) (notT (tst (chain le2 le2 (cst (.int 1)) (appN lenN (acons (var 0) anil)) (cst (.int 12)))))) (sSeq (sRaise (Str.ofString "NoBook") [Str.ofString "piece", Str.ofString "row"] (acons (cst .non) (acons (cst .non) anil))) sNil) sNil) (sSeq (sFor (itA enumerateN (acons (var 0) anil)) (tgT [1, 2]) t1_look_at_book) (sSeq (sIf (tst (bin gt2 (appN lenN (acons (appU f_roster_in (acons (var 0) anil)) anil)) (cst (.int 8)))) (sSeq (sRaise (Str.ofString "NoBook") [Str.ofString "piece", Str.ofString "row"] (acons (cst .non) (acons (cst .non) anil))) sNil) sNil) sNil)))
def f_look_at_book : List U → Store → Rs U := runB 5 1 b_look_at_book
def b_Lists____init__ : DS := (sSeq (sFldT [Str.ofString "Lists"] [Str.ofString "stands", Str.ofString "holds", Str.ofString "kept_tags", Str.ofString "given_tags"] (var 0) (var 1)) sNil)
def f_Lists____init__ : List U → Store → Rs U := runB 2 2 b_Lists____init__
def b_Lists__standing : DS := (sSeq (sRet (newL (itA lstL (acons (getTD (fldD [Str.ofString "Lists"] (Str.ofString "stands") (var 0)) (acons (var 1) (acons (var 2) anil)) (appN szL anil)) anil)))) sNil)
def f_Lists__standing : List U → Store → Rs U := runB 3 3 b_Lists__standing
def b_verdict_in : DS := (sSeq (sSet 3 (newL (compD (itemsD (mtD [(Str.ofString "Lists", f_Lists__standing)] (Str.ofString "standing") (mkO (Str.ofString "Lists") f_Lists____init__ (acons (var 0) anil)) (acons (bin ix2 (var 1) (cst (.int 0))) (acons (bin ix2 (var 1) (cst (.int 1))) anil)))) [4] (tgN 4) yesT (bin in2 (var 2) (var 4))))) (sSeq (sIf (tst (bin eq2 (var 3) (appN szL anil))) (sSeq (sRet (cst (.str (Str.ofString "never")))) sNil) sNil) (sSeq (sIf (tst (appN allN (acons (var 3) anil))) (sSeq (sRet (cst (.str (Str.ofString "sure")))) sNil) sNil) (sSeq (sIf (tst (appN anyN (acons (var 3) anil))) (sSeq (sRet (cst (.str (Str.ofString "open")))) sNil) sNil) (sSeq (sRet (cst (.str (Str.ofString "hopeless")))) sNil)))))
def f_verdict_in : List U → Store → Rs U := runB 5 3 b_verdict_in
def b_verdict_at : DS := (sSeq (sExpr (appU f_look_at_book (acons (var 0) anil))) (sSeq (sIf (notT (tst (appU f_is_place (acons (var 0) (acons (var 2) anil))))) (sSeq (sRaise0 (Str.ofString "NoPlace")) sNil) sNil) (sSeq (sSet 3 (bin ix2 (bin ix2 (appU f_piece_in (acons (var 0) (acons (bin ix2 (var 2) (cst (.int 0))) anil))) (cst (.int 3))) (bin ix2 (var 2) (cst (.int 1))))) (sSeq (sIf (tst (bin nin2 (bin ix2 (var 3) (cst (.int 0))) (appN szT (acons (cst (.str (Str.ofString "ask"))) (acons (cst (.str (Str.ofString "deed"))) anil))))) (sSeq (sRaise0 (Str.ofString "NoPlace")) sNil) sNil) (sSeq (sRet (appU f_verdict_in (acons (var 1) (acons (var 2) (acons (bin ix2 (var 3) (cst (.int 1))) anil))))) sNil)))))
def f_verdict_at : List U → Store → Rs U := runB 4 3 b_verdict_at
def b_l_told : DS := (sSeq (sSet 2 (appN szT (acons (dispT [((acons (cst (.str (Str.ofString "one"))) (acons (cst (.int 0)) anil)), (appN szL (acons (appN szT anil) (acons (appN szT (acons (cst (.str (Str.ofString "w"))) anil)) anil)))), ((acons (cst (.str (Str.ofString "two"))) (acons (cst (.int 1)) anil)), (appN szL (acons (appN szT (acons (cst (.str (Str.ofString "w"))) anil)) anil)))]) (acons (cst (.dct [] [])) (acons (cst (.dct [] [])) (acons (cst (.dct [] [])) anil)))))) (sSeq (sSet 3 (cst .non)) (sSeq (sSet 4 (cst .non)) (sSeq (sTryK [(Str.ofString "NoBook", true), (Str.ofString "NoPlace", true)] 5 3 (sSeq (sSet 4 (appU f_verdict_at (acons (var 0) (acons (var 2) (acons (var 1) anil))))) sNil)) (sSeq (sIf (tst (bin is2 (var 3) (cst .non))) (sSeq (sRet (bin ix2 (appN szL (acons (cst (.str (Str.ofString "other"))) (acons (cst (.str (Str.ofString "told"))) anil))) (appN intN (acons (bin in2 (var 4) (appN szT (acons (cst (.str (Str.ofString "never"))) (acons (cst (.str (Str.ofString "sure"))) (acons (cst (.str (Str.ofString "hopeless"))) (acons (cst (.str (Str.ofString "open"))) anil)))))) anil)))) sNil) sNil) (sSeq (sIf (orT (tst (isX [(Str.ofString "NoBook", false), (Str.ofString "NoPlace", false)] (var 3))) (notT (tst (isX [(Str.ofString "NoBook", true), (Str.ofString "NoPlace", true)] (var 3))))) (sSeq (sRet (cst (.str (Str.ofString "other")))) sNil) sNil) (sSeq (sIf (tst (isX [(Str.ofString "NoBook", true), (Str.ofString "NoPlace", false)] (var 3))) (sSeq (sRet (bin ix2 (appN szL (acons (cst (.str (Str.ofString "book"))) (acons (cst (.str (Str.ofString "other"))) anil))) (appN intN (acons (isX [(Str.ofString "NoBook", false), (Str.ofString "NoPlace", true)] (var 3)) anil)))) sNil) sNil) (sSeq (sRet (bin ix2 (appN szL (acons (cst (.str (Str.ofString "other"))) (acons (cst (.str (Str.ofString "place"))) anil))) (appN intN (acons (isX [(Str.ofString "NoBook", false), (Str.ofString "NoPlace", true)] (var 3)) anil)))) sNil))))))))
def f_l_told : List U → Store → Rs U := runB 6 2 b_l_told
def t1_law : DS := (sSeq (sSet 3 (appU f_l_numbers (acons (var 2) (acons (appN szL (acons (cst (.int 4)) (acons (cst (.int 6)) (acons (cst (.int 12)) (acons (cst (.int 24)) (acons (cst (.int 5)) anil)))))) anil)))) (sSeq (sIxR (var 3) (cst (.int 2)) (appN maxN (acons (cst (.int 0)) (acons (bin sub2 (ixR (var 3) (cst (.int 2))) (cst (.int 5))) anil)))) (sSeq (sSet 4 (appU f_l_place (acons (var 3) anil))) (sSeq (frzS 1 (sIf (tst (bin ne2 (appU f_l_told (acons (var 1) (acons (var 4) anil))) (bin ix2 (appN szL (acons (cst (.str (Str.ofString "place"))) (acons (cst (.str (Str.ofString "told"))) anil))) (appN intN (acons (appU f_l_good (acons (var 4) anil)) anil))))) (sSeq (sRet (cst (.bl false))) sNil) sNil)) (sSeq (frzS 1 (sIf (andT (tst (bin eq2 (ixR (var 3) (cst (.int 4))) (cst (.int 0)))) (tst (bin ne2 (appU f_l_told (acons (bin add2 (var 1) (var 1)) (acons (var 4) anil))) (cst (.str (Str.ofString "book")))))) (sSeq (sRet (cst (.bl false))) sNil) sNil)) sNil)))))
def b_law : DS := (sSeq (sOwn 1 (szDL (acons (appN szT (acons (cst (.str (Str.ofString "one"))) (acons (appN szT (acons (cst (.str (Str.ofString "w"))) anil)) (acons (appN szT anil) (acons (appN szT (acons (appN szT (acons (cst (.str (Str.ofString "ask"))) (acons (cst (.str (Str.ofString "w"))) (acons (cst (.int 1)) anil)))) (acons (appN szT (acons (cst (.str (Str.ofString "done"))) (acons (cst (.str (Str.ofString "w"))) (acons (cst (.str (Str.ofString "x"))) anil)))) (acons (appN szT (acons (cst (.str (Str.ofString "deed"))) (acons (cst (.str (Str.ofString "x"))) (acons (cst (.str (Str.ofString "x"))) anil)))) (acons (appN szT (acons (cst (.str (Str.ofString "on"))) anil)) anil))))) anil))))) anil))) (sSeq (sApp 1 (appN szT (acons (cst (.str (Str.ofString "two"))) (acons (appN szT anil) (acons (appN szT anil) (acons (appN szT (acons (appN szT (acons (cst (.str (Str.ofString "on"))) anil)) (acons (appN szT (acons (cst (.str (Str.ofString "deed"))) (acons (cst (.str (Str.ofString "w"))) (acons (cst (.str (Str.ofString "x"))) anil)))) (acons (appN szT (acons (cst (.str (Str.ofString "skip"))) (acons (cst (.str (Str.ofString "x"))) (acons (cst (.int 1)) anil)))) (acons (appN szT (acons (cst (.str (Str.ofString "count"))) anil)) anil))))) anil)))))) (sSeq (sFor (itemsD (bin add2 (appN szL (acons (cst (.int 0)) (acons (cst (.int 1)) (acons (cst (.int 2)) anil)))) (slD (var 0) noO (soO (cst (.int 40)))))) (tgN 2) t1_law) (sSeq (sRet (cst (.bl true))) sNil))))
def f_law : List U → Store → Rs U := runB 5 1 b_law
abbrev si_NoBook : Stmt := inClass (topS 3) 0
theorem sci_NoBook : FnScope [Str.ofString "self", Str.ofString "piece", Str.ofString "row"] [Str.ofString "self", Str.ofString "piece", Str.ofString "row"] (defScope si_NoBook) := ⟨rfl, rfl, rfl, by decide +kernel, rfl, by decide +kernel, by decide +kernel⟩
structure Tx (K : PySem.W.Frag) (w : World) (mg : Str → Option Value) (C_CallersError C_NoBook C_NoName C_NoPiece C_NoPlace C_NoRow C_NoRun C_NoText C_Twice C_Lists : Addr) : Prop where
  oc_Lists : clsAt K "Lists" = some C_Lists
  ol_Lists : Cls K C_Lists
  on_Lists_given_tags : NoAttr K C_Lists "given_tags"
  on_Lists_holds : NoAttr K C_Lists "holds"
  on_Lists_kept_tags : NoAttr K C_Lists "kept_tags"
  on_Lists_stands : NoAttr K C_Lists "stands"
  k_CallersError : ClsF K mg "CallersError" C_CallersError
  k_NoBook : ClsF K mg "NoBook" C_NoBook
  k_NoName : ClsF K mg "NoName" C_NoName
  k_NoPiece : ClsF K mg "NoPiece" C_NoPiece
  k_NoPlace : ClsF K mg "NoPlace" C_NoPlace
  k_NoRow : ClsF K mg "NoRow" C_NoRow
  k_NoRun : ClsF K mg "NoRun" C_NoRun
  k_NoText : ClsF K mg "NoText" C_NoText
  k_Twice : ClsF K mg "Twice" C_Twice
  e_NoBook : ExcC K C_NoBook
  e_NoPlace : ExcC K C_NoPlace
  q_NoPlace : PySem.W.excIn K C_NoPlace [.type "ValueError", .type "Exception", .type "BaseException", .type "object"] "ValueError.__new__" = true
  kc_NoPlace : PySem.W.keepIn K (.ref C_NoPlace) = true
  g_NoBook_piece : PySem.W.findIn K (.ref C_NoBook) "piece" = some none
  g_NoBook_row : PySem.W.findIn K (.ref C_NoBook) "row" = some none
  s_NoBook_CallersError : PySem.W.subIn K (.ref C_NoBook) (.ref C_CallersError) = some true
  n_NoBook_CallersError : (C_NoBook == C_CallersError) = false
  s_NoBook_NoName : PySem.W.subIn K (.ref C_NoBook) (.ref C_NoName) = some false
  n_NoBook_NoName : (C_NoBook == C_NoName) = false
  s_NoBook_NoPiece : PySem.W.subIn K (.ref C_NoBook) (.ref C_NoPiece) = some false
  n_NoBook_NoPiece : (C_NoBook == C_NoPiece) = false
  s_NoBook_NoPlace : PySem.W.subIn K (.ref C_NoBook) (.ref C_NoPlace) = some false
  n_NoBook_NoPlace : (C_NoBook == C_NoPlace) = false
  s_NoBook_NoRow : PySem.W.subIn K (.ref C_NoBook) (.ref C_NoRow) = some false
  n_NoBook_NoRow : (C_NoBook == C_NoRow) = false
  s_NoBook_NoRun : PySem.W.subIn K (.ref C_NoBook) (.ref C_NoRun) = some false
  n_NoBook_NoRun : (C_NoBook == C_NoRun) = false
  s_NoBook_NoText : PySem.W.subIn K (.ref C_NoBook) (.ref C_NoText) = some false
  n_NoBook_NoText : (C_NoBook == C_NoText) = false
  s_NoBook_Twice : PySem.W.subIn K (.ref C_NoBook) (.ref C_Twice) = some false
  n_NoBook_Twice : (C_NoBook == C_Twice) = false
  s_NoPlace_CallersError : PySem.W.subIn K (.ref C_NoPlace) (.ref C_CallersError) = some true
  n_NoPlace_CallersError : (C_NoPlace == C_CallersError) = false
  s_NoPlace_NoBook : PySem.W.subIn K (.ref C_NoPlace) (.ref C_NoBook) = some false
  n_NoPlace_NoBook : (C_NoPlace == C_NoBook) = false
  s_NoPlace_NoName : PySem.W.subIn K (.ref C_NoPlace) (.ref C_NoName) = some false
  n_NoPlace_NoName : (C_NoPlace == C_NoName) = false
  s_NoPlace_NoPiece : PySem.W.subIn K (.ref C_NoPlace) (.ref C_NoPiece) = some false
  n_NoPlace_NoPiece : (C_NoPlace == C_NoPiece) = false
  s_NoPlace_NoRow : PySem.W.subIn K (.ref C_NoPlace) (.ref C_NoRow) = some false
  n_NoPlace_NoRow : (C_NoPlace == C_NoRow) = false
  s_NoPlace_NoRun : PySem.W.subIn K (.ref C_NoPlace) (.ref C_NoRun) = some false
  n_NoPlace_NoRun : (C_NoPlace == C_NoRun) = false
  s_NoPlace_NoText : PySem.W.subIn K (.ref C_NoPlace) (.ref C_NoText) = some false
  n_NoPlace_NoText : (C_NoPlace == C_NoText) = false
  s_NoPlace_Twice : PySem.W.subIn K (.ref C_NoPlace) (.ref C_Twice) = some false
  n_NoPlace_Twice : (C_NoPlace == C_Twice) = false
  s_NoBook_ValueError : PySem.W.subIn K (.ref C_NoBook) (.type "ValueError") = some true
  s_NoPlace_ValueError : PySem.W.subIn K (.ref C_NoPlace) (.type "ValueError") = some true
  b_ValueError : mg "ValueError" = none
  b_abs : mg "abs" = none
  b_all : mg "all" = none
  b_any : mg "any" = none
  b_bool : mg "bool" = none
  b_enumerate : mg "enumerate" = none
  b_int : mg "int" = none
  b_isinstance : mg "isinstance" = none
  b_len : mg "len" = none
  b_list : mg "list" = none
  b_max : mg "max" = none
  b_range : mg "range" = none
  b_set : mg "set" = none
  b_sorted : mg "sorted" = none
  b_str : mg "str" = none
  b_tuple : mg "tuple" = none
  b_zip : mg "zip" = none
  c_GREATEST : ∃ t, mg "GREATEST" = some (Value.int 1000000000000000000 t)
  c_LETTERS : ∃ t, mg "LETTERS" = some (Value.str (Str.ofString "abcdefghijklmnopqrstuvwxyz") t)
  c_LONGEST : ∃ t, mg "LONGEST" = some (Value.int 8 t)
  c_MOST : ∃ t, mg "MOST" = some (Value.int 8 t)
  c_MOST_ARGS : ∃ t, mg "MOST_ARGS" = some (Value.int 4 t)
  c_MOST_LEAVES : ∃ t, mg "MOST_LEAVES" = some (Value.int 8 t)
  c_MOST_PIECES : ∃ t, mg "MOST_PIECES" = some (Value.int 12 t)
  c_MOST_ROWS : ∃ t, mg "MOST_ROWS" = some (Value.int 60 t)
  t_PARTS : KTab K w mg "PARTS" tab_PARTS
section
variable {P : Program} {w : World} {K : PySem.W.Frag} {mg : Str → Option Value} {base : Heap} {C_CallersError C_NoBook C_NoName C_NoPiece C_NoPlace C_NoRow C_NoRun C_NoText C_Twice C_Lists : Addr}
theorem oki_NoBook (T : Tx K w mg C_CallersError C_NoBook C_NoName C_NoPiece C_NoPlace C_NoRow C_NoRun C_NoText C_Twice C_Lists) (O : OexC K C_NoBook) (BF : BaseF K C_CallersError) {f : Addr} {fd : FuncData} (F : Fun K "__init__" "NoBook.__init__" si_NoBook f fd) : FnOk P w K mg base (L2.CX P w) 1 f fd [Str.ofString "self", Str.ofString "piece", Str.ofString "row"] (spI C_NoBook [Str.ofString "piece", Str.ofString "row"]) :=
  F.okX sci_NoBook (fun vs H Q E h => h.1) fun cdv A outer sh H vs Q E hr h => ⟨_, pss_cons (ps_expr (pe_baseI (by rfl) T.k_CallersError.mg BF.g1 T.k_CallersError.ty BF.g3 BF.vV (pa_cons (pv 0) (pa_cons (pe_str (x := Str.ofString "no book")) pa_nil)))) (pss_cons (ps_ost (pv 0) (pv 1)) (pss_cons (ps_ost (pv 0) (pv 2)) pss_nil)), init2_read O T.g_NoBook_piece T.g_NoBook_row rfl h⟩
set_option maxHeartbeats 4000000 in
theorem ok_l_good (T : Tx K w mg C_CallersError C_NoBook C_NoName C_NoPiece C_NoPlace C_NoRow C_NoRun C_NoText C_Twice C_Lists)   {f : Addr} {fd : FuncData} (F : Fun K "_law_good" "_law_good" s_l_good f fd) : FnOk P w K mg base (L2.CX P w) 1 f fd [Str.ofString "_law_place_here"] (spD K (XSd K) 1 (runB 1 1 b_l_good)) :=
  fn_d F sc_l_good fun cdv A outer sh H E hr => by
  have tk : Takes (cxOf (L2.CX P w) P w K mg base n_l_good "_law_good" (defScope s_l_good) f cdv A outer sh H E) (fun cls d _ H => E cls d H) := takes_of rfl rfl rfl rfl
  have hp : PassesOwn (model P w) (A.deeper (PyProof.Rows.envOfC "_law_good" (defScope s_l_good) sh.heap.objs.size f cdv)) (PyProof.Rows.envOfC "_law_good" (defScope s_l_good) sh.heap.objs.size f cdv) (cxOf (L2.CX P w) P w K mg base n_l_good "_law_good" (defScope s_l_good) f cdv A outer sh H E).xe := passes_of (X := cxOf (L2.CX P w) P w K mg base n_l_good "_law_good" (defScope s_l_good) f cdv A outer sh H E) rfl
  exact (ss_cons (s_if (PW.pt (w_or (t_not (t_val (d_callB (x := "isinstance") c_isi (by rfl) T.b_isinstance bt_isinstance (a_cons (dv 0) (a_cons (d_ty (by rfl) T.b_tuple bt_tuple) a_nil))))) (w_or (t_cmp (o_ne hr.units) (d_callB (x := "len") c_len (by rfl) T.b_len bt_len (a_cons (dv 0) a_nil)) d_int) (w_or1 (t_not (t_val (d_callB (x := "isinstance") c_isi (by rfl) T.b_isinstance bt_isinstance (a_cons (d_ix (dv 0) d_int (fun _ _ => rfl)) (a_cons (d_ty (by rfl) T.b_int bt_int) a_nil))))))))) (ss_cons (s_ret d_bl)
    ss_nil) ss_nil)
    (ss_cons (s_if (PW.pt (w_or (t_val (d_callB (x := "isinstance") c_isi (by rfl) T.b_isinstance bt_isinstance (a_cons (d_ix (dv 0) d_int (fun _ _ => rfl)) (a_cons (d_ty (by rfl) T.b_bool bt_bool) a_nil)))) (w_or1 (t_not (t_val (d_callB (x := "isinstance") c_isi (by rfl) T.b_isinstance bt_isinstance (a_cons (d_ix (dv 0) d_int (fun _ _ => rfl)) (a_cons (d_ty (by rfl) T.b_str bt_str) a_nil)))))))) (ss_cons (s_ret d_bl)
    ss_nil) ss_nil)
    (ss_cons (s_ret (d_cmp (o_in (u65 hr)) (dv 0) (d_lst (a_cons (d_tup (a_cons d_str (a_cons d_int a_nil))) (a_cons (d_tup (a_cons d_str (a_cons d_int a_nil))) (a_cons (d_tup (a_cons d_str (a_cons d_int a_nil))) a_nil))))))
    ss_nil)))
set_option maxHeartbeats 4000000 in
theorem ok_l_numbers (T : Tx K w mg C_CallersError C_NoBook C_NoName C_NoPiece C_NoPlace C_NoRow C_NoRun C_NoText C_Twice C_Lists)   {f : Addr} {fd : FuncData} (F : Fun K "_law_numbers" "_law_numbers" s_l_numbers f fd) : FnOk P w K mg base (L2.CX P w) 1 f fd [Str.ofString "_law_cell_here", Str.ofString "_law_sizes"] (spD K (XSd K) 2 (runB 7 2 b_l_numbers)) :=
  fn_d F sc_l_numbers fun cdv A outer sh H E hr => by
  have tk : Takes (cxOf (L2.CX P w) P w K mg base n_l_numbers "_law_numbers" (defScope s_l_numbers) f cdv A outer sh H E) (fun cls d _ H => E cls d H) := takes_of rfl rfl rfl rfl
  have hp : PassesOwn (model P w) (A.deeper (PyProof.Rows.envOfC "_law_numbers" (defScope s_l_numbers) sh.heap.objs.size f cdv)) (PyProof.Rows.envOfC "_law_numbers" (defScope s_l_numbers) sh.heap.objs.size f cdv) (cxOf (L2.CX P w) P w K mg base n_l_numbers "_law_numbers" (defScope s_l_numbers) f cdv A outer sh H E).xe := passes_of (X := cxOf (L2.CX P w) P w K mg base n_l_numbers "_law_numbers" (defScope s_l_numbers) f cdv A outer sh H E) rfl
  exact (ss_cons (sset 2 sc_l_numbers.nd (d_callB (x := "max") (c_max rfl) (by rfl) T.b_max bt_max (a_cons (dv 0) (a_cons (d_bin o_sub (d_neg d_int) (dv 0)) a_nil))))
    (ss_cons (sset 3 sc_l_numbers.nd (dv 2))
    (ss_cons (sown 4 sc_l_numbers.nd (l_lst a_nil))
    (ss_cons (s_for hp rfl (i_range1 rfl T.b_range (a_cons (d_callB (x := "len") c_len (by rfl) T.b_len bt_len (a_cons (dv 1) a_nil)) a_nil)) (gn 5 sc_l_numbers.nd) (b := t1_l_numbers) (ss_cons (s_if (PW.pt (w_and (t_cmp o_ge (dv 2) (d_bin o_pow d_int d_int)) (w_and1 (t_cmp o_gt (dv 3) d_int)))) (ss_cons (sapp 4 (d_bin o_mod (dv 3) (d_ix (dv 1) (dv 5) (fun _ _ => rfl))))
    (ss_cons (sset 3 sc_l_numbers.nd (d_bin o_fdiv (dv 3) (d_ix (dv 1) (dv 5) (fun _ _ => rfl))))
    ss_nil)) (ss_cons (sset 6 sc_l_numbers.nd (d_bin o_mod (d_bin o_mul (d_bin o_add (d_bin o_add (d_bin o_mod (dv 2) d_int) (d_bin o_mul d_int (dv 5))) d_int) (d_bin o_add (d_bin o_mul d_int (dv 5)) d_int)) d_int))
    (ss_cons (sapp 4 (d_bin o_mod (d_bin o_fdiv (d_bin o_mod (d_bin o_pow (dv 6) d_int) d_int) d_int) (d_ix (dv 1) (dv 5) (fun _ _ => rfl))))
    ss_nil)))
    ss_nil))
    (ss_cons (s_retR (i := 4))
    ss_nil)))))
set_option maxHeartbeats 4000000 in
theorem ok_l_place (T : Tx K w mg C_CallersError C_NoBook C_NoName C_NoPiece C_NoPlace C_NoRow C_NoRun C_NoText C_Twice C_Lists)   {f : Addr} {fd : FuncData} (F : Fun K "_law_place" "_law_place" s_l_place f fd) : FnOk P w K mg base (L2.CX P w) 1 f fd [Str.ofString "_law_d"] (spD K (XSd K) 1 (runB 5 1 b_l_place)) :=
  fn_d F sc_l_place fun cdv A outer sh H E hr => by
  have tk : Takes (cxOf (L2.CX P w) P w K mg base n_l_place "_law_place" (defScope s_l_place) f cdv A outer sh H E) (fun cls d _ H => E cls d H) := takes_of rfl rfl rfl rfl
  have hp : PassesOwn (model P w) (A.deeper (PyProof.Rows.envOfC "_law_place" (defScope s_l_place) sh.heap.objs.size f cdv)) (PyProof.Rows.envOfC "_law_place" (defScope s_l_place) sh.heap.objs.size f cdv) (cxOf (L2.CX P w) P w K mg base n_l_place "_law_place" (defScope s_l_place) f cdv A outer sh H E).xe := passes_of (X := cxOf (L2.CX P w) P w K mg base n_l_place "_law_place" (defScope s_l_place) f cdv A outer sh H E) rfl
  exact (ss_cons (sset 1 sc_l_place.nd (d_ix (d_lst (a_cons d_str (a_cons d_str (a_cons d_str (a_cons d_str a_nil))))) (d_ixR (dv 0) d_int (fun _ _ => rfl)) (fun _ _ => rfl)))
    (ss_cons (sset 2 sc_l_place.nd (d_ix (d_lst (a_cons (d_ixR (dv 0) d_int (fun _ _ => rfl)) (a_cons d_bl (a_cons (d_callT c_str (by rfl) T.b_str bt_str (a_cons (d_ixR (dv 0) d_int (fun _ _ => rfl)) a_nil)) (a_cons (d_neg d_int) (a_cons d_int (a_cons d_non (a_cons (d_tup (a_cons d_int a_nil)) a_nil)))))))) (d_ixR (dv 0) d_int (fun _ _ => rfl)) (fun _ _ => rfl)))
    (ss_cons (sset 3 sc_l_place.nd (d_tup (a_cons (dv 1) (a_cons (dv 2) a_nil))))
    (ss_cons (sset 4 sc_l_place.nd (d_lst (a_cons (d_new (l_list rfl rfl T.b_list (a_cons (dv 3) a_nil))) (a_cons (d_bin o_add (dv 3) (d_tup (a_cons d_int a_nil))) (a_cons (d_tup (a_cons (dv 2) (a_cons (dv 1) a_nil))) (a_cons (dv 1) (a_cons d_non (a_cons d_int (a_cons (d_tup a_nil) (a_cons d_dict0 (a_cons (d_tup (a_cons (d_lst (a_cons (dv 1) a_nil)) (a_cons (dv 2) a_nil))) (a_cons (d_tup (a_cons d_dict0 (a_cons d_int a_nil))) a_nil))))))))))))
    (ss_cons (s_if (t_cmp o_lt (d_ixR (dv 0) d_int (fun _ _ => rfl)) d_int) (ss_cons (s_ret (d_ix (dv 4) (d_ixR (dv 0) d_int (fun _ _ => rfl)) (fun _ _ => rfl)))
    ss_nil) ss_nil)
    (ss_cons (s_ret (dv 3))
    ss_nil))))))
set_option maxHeartbeats 4000000 in
theorem ok_is_whole (T : Tx K w mg C_CallersError C_NoBook C_NoName C_NoPiece C_NoPlace C_NoRow C_NoRun C_NoText C_Twice C_Lists)   {f : Addr} {fd : FuncData} (F : Fun K "is_whole" "is_whole" s_is_whole f fd) : FnOk P w K mg base (L2.CX P w) 1 f fd [Str.ofString "thing"] (spD K (XSd K) 1 (runB 1 1 b_is_whole)) :=
  fn_d F sc_is_whole fun cdv A outer sh H E hr => by
  have tk : Takes (cxOf (L2.CX P w) P w K mg base n_is_whole "is_whole" (defScope s_is_whole) f cdv A outer sh H E) (fun cls d _ H => E cls d H) := takes_of rfl rfl rfl rfl
  have hp : PassesOwn (model P w) (A.deeper (PyProof.Rows.envOfC "is_whole" (defScope s_is_whole) sh.heap.objs.size f cdv)) (PyProof.Rows.envOfC "is_whole" (defScope s_is_whole) sh.heap.objs.size f cdv) (cxOf (L2.CX P w) P w K mg base n_is_whole "is_whole" (defScope s_is_whole) f cdv A outer sh H E).xe := passes_of (X := cxOf (L2.CX P w) P w K mg base n_is_whole "is_whole" (defScope s_is_whole) f cdv A outer sh H E) rfl
  exact (ss_cons (s_ret (d_and (d_callB (x := "isinstance") c_isi (by rfl) T.b_isinstance bt_isinstance (a_cons (dv 0) (a_cons (d_ty (by rfl) T.b_int bt_int) a_nil))) (d_one (d_not (d_callB (x := "isinstance") c_isi (by rfl) T.b_isinstance bt_isinstance (a_cons (dv 0) (a_cons (d_ty (by rfl) T.b_bool bt_bool) a_nil)))))))
    ss_nil)
set_option maxHeartbeats 4000000 in
theorem ok_piece_in (T : Tx K w mg C_CallersError C_NoBook C_NoName C_NoPiece C_NoPlace C_NoRow C_NoRun C_NoText C_Twice C_Lists)   {f : Addr} {fd : FuncData} (F : Fun K "piece_in" "piece_in" s_piece_in f fd) : FnOk P w K mg base (L2.CX P w) 1 f fd [Str.ofString "book", Str.ofString "name"] (spD K (XSd K) 2 (runB 3 2 b_piece_in)) :=
  fn_d F sc_piece_in fun cdv A outer sh H E hr => by
  have tk : Takes (cxOf (L2.CX P w) P w K mg base n_piece_in "piece_in" (defScope s_piece_in) f cdv A outer sh H E) (fun cls d _ H => E cls d H) := takes_of rfl rfl rfl rfl
  have hp : PassesOwn (model P w) (A.deeper (PyProof.Rows.envOfC "piece_in" (defScope s_piece_in) sh.heap.objs.size f cdv)) (PyProof.Rows.envOfC "piece_in" (defScope s_piece_in) sh.heap.objs.size f cdv) (cxOf (L2.CX P w) P w K mg base n_piece_in "piece_in" (defScope s_piece_in) f cdv A outer sh H E).xe := passes_of (X := cxOf (L2.CX P w) P w K mg base n_piece_in "piece_in" (defScope s_piece_in) f cdv A outer sh H E) rfl
  exact (ss_cons (s_for hp rfl (i_seq (dv 0)) (gn 2 sc_piece_in.nd) (b := t1_piece_in) (ss_cons (s_if (t_cmp (o_eq hr.units) (d_ix (dv 2) d_int (fun _ _ => rfl)) (dv 1)) (ss_cons (s_ret (dv 2))
    ss_nil) ss_nil)
    ss_nil))
    (ss_cons (s_ret d_non)
    ss_nil))
set_option maxHeartbeats 4000000 in
theorem ok_is_place (T : Tx K w mg C_CallersError C_NoBook C_NoName C_NoPiece C_NoPlace C_NoRow C_NoRun C_NoText C_Twice C_Lists) (F_is_whole : Fn P w K mg base (XSd K) "is_whole" 1 1 f_is_whole) (F_piece_in : Fn P w K mg base (XSd K) "piece_in" 1 2 f_piece_in)  {f : Addr} {fd : FuncData} (F : Fun K "is_place" "is_place" s_is_place f fd) : FnOk P w K mg base (L2.CX P w) 2 f fd [Str.ofString "book", Str.ofString "thing"] (spD K (XSd K) 2 (runB 3 2 b_is_place)) :=
  fn_d F sc_is_place fun cdv A outer sh H E hr => by
  have tk : Takes (cxOf (L2.CX P w) P w K mg base n_is_place "is_place" (defScope s_is_place) f cdv A outer sh H E) (fun cls d _ H => E cls d H) := takes_of rfl rfl rfl rfl
  have hp : PassesOwn (model P w) (A.deeper (PyProof.Rows.envOfC "is_place" (defScope s_is_place) sh.heap.objs.size f cdv)) (PyProof.Rows.envOfC "is_place" (defScope s_is_place) sh.heap.objs.size f cdv) (cxOf (L2.CX P w) P w K mg base n_is_place "is_place" (defScope s_is_place) f cdv A outer sh H E).xe := passes_of (X := cxOf (L2.CX P w) P w K mg base n_is_place "is_place" (defScope s_is_place) f cdv A outer sh H E) rfl
  exact (ss_cons (s_if (PW.pt (w_or (t_not (t_val (d_callB (x := "isinstance") c_isi (by rfl) T.b_isinstance bt_isinstance (a_cons (dv 1) (a_cons (d_ty (by rfl) T.b_tuple bt_tuple) a_nil))))) (w_or (t_cmp (o_ne hr.units) (d_callB (x := "len") c_len (by rfl) T.b_len bt_len (a_cons (dv 1) a_nil)) d_int) (w_or1 (t_not (t_val (d_callB (x := "isinstance") c_isi (by rfl) T.b_isinstance bt_isinstance (a_cons (d_ix (dv 1) d_int (fun _ _ => rfl)) (a_cons (d_ty (by rfl) T.b_str bt_str) a_nil))))))))) (ss_cons (s_ret d_bl)
    ss_nil) ss_nil)
    (ss_cons (sset 2 sc_is_place.nd (d_callF (x := "piece_in") F_piece_in tk (hr.mono (by decide)) (by rfl) (a_cons (dv 0) (a_cons (d_ix (dv 1) d_int (fun _ _ => rfl)) a_nil))))
    (ss_cons (s_ret (d_and (d_cmp o_isnot (dv 2) d_non) (d_and (d_callF (x := "is_whole") F_is_whole tk (hr.mono (by decide)) (by rfl) (a_cons (d_ix (dv 1) d_int (fun _ _ => rfl)) a_nil)) (d_one (d_chain o_le o_lt d_int (d_ix (dv 1) d_int (fun _ _ => rfl)) (d_callB (x := "len") c_len (by rfl) T.b_len bt_len (a_cons (d_ix (dv 2) d_int (fun _ _ => rfl)) a_nil)))))))
    ss_nil)))
set_option maxHeartbeats 4000000 in
theorem ok_goes_over (T : Tx K w mg C_CallersError C_NoBook C_NoName C_NoPiece C_NoPlace C_NoRow C_NoRun C_NoText C_Twice C_Lists)   {f : Addr} {fd : FuncData} (F : Fun K "goes_over" "goes_over" s_goes_over f fd) : FnOk P w K mg base (L2.CX P w) 1 f fd [Str.ofString "row"] (spD K (XSd K) 1 (runB 1 1 b_goes_over)) :=
  fn_d F sc_goes_over fun cdv A outer sh H E hr => by
  have tk : Takes (cxOf (L2.CX P w) P w K mg base n_goes_over "goes_over" (defScope s_goes_over) f cdv A outer sh H E) (fun cls d _ H => E cls d H) := takes_of rfl rfl rfl rfl
  have hp : PassesOwn (model P w) (A.deeper (PyProof.Rows.envOfC "goes_over" (defScope s_goes_over) sh.heap.objs.size f cdv)) (PyProof.Rows.envOfC "goes_over" (defScope s_goes_over) sh.heap.objs.size f cdv) (cxOf (L2.CX P w) P w K mg base n_goes_over "goes_over" (defScope s_goes_over) f cdv A outer sh H E).xe := passes_of (X := cxOf (L2.CX P w) P w K mg base n_goes_over "goes_over" (defScope s_goes_over) f cdv A outer sh H E) rfl
  exact (ss_cons (s_if (t_cmp (o_in (u65 hr)) (d_ix (dv 0) d_int (fun _ _ => rfl)) (d_tup (a_cons d_str (a_cons d_str (a_cons d_str a_nil))))) (ss_cons (s_ret (d_ix (dv 0) (d_neg d_int) (fun _ _ => rfl)))
    ss_nil) ss_nil)
    (ss_cons (s_ret d_int)
    ss_nil))
set_option maxHeartbeats 4000000 in
theorem ok_is_word (T : Tx K w mg C_CallersError C_NoBook C_NoName C_NoPiece C_NoPlace C_NoRow C_NoRun C_NoText C_Twice C_Lists)   {f : Addr} {fd : FuncData} (F : Fun K "is_word" "is_word" s_is_word f fd) : FnOk P w K mg base (L2.CX P w) 1 f fd [Str.ofString "thing"] (spD K (XSd K) 1 (runB 2 1 b_is_word)) :=
  fn_d F sc_is_word fun cdv A outer sh H E hr => by
  have tk : Takes (cxOf (L2.CX P w) P w K mg base n_is_word "is_word" (defScope s_is_word) f cdv A outer sh H E) (fun cls d _ H => E cls d H) := takes_of rfl rfl rfl rfl
  have hp : PassesOwn (model P w) (A.deeper (PyProof.Rows.envOfC "is_word" (defScope s_is_word) sh.heap.objs.size f cdv)) (PyProof.Rows.envOfC "is_word" (defScope s_is_word) sh.heap.objs.size f cdv) (cxOf (L2.CX P w) P w K mg base n_is_word "is_word" (defScope s_is_word) f cdv A outer sh H E).xe := passes_of (X := cxOf (L2.CX P w) P w K mg base n_is_word "is_word" (defScope s_is_word) f cdv A outer sh H E) rfl
  exact (ss_cons (s_if (PW.pt (w_or (t_not (t_val (d_callB (x := "isinstance") c_isi (by rfl) T.b_isinstance bt_isinstance (a_cons (dv 0) (a_cons (d_ty (by rfl) T.b_str bt_str) a_nil))))) (w_or1 (t_not (t_chain o_le o_le d_int (d_callB (x := "len") c_len (by rfl) T.b_len bt_len (a_cons (dv 0) a_nil)) (d_gInt rfl T.c_LONGEST)))))) (ss_cons (s_ret d_bl)
    ss_nil) ss_nil)
    (ss_cons (s_ret (d_callB (x := "all") (c_all rfl) (by rfl) T.b_all bt_all (a_cons (d_new (l_comp (own := [("sign", 1)]) rfl sc_is_word.nd (i_seq (dv 0)) (blkOk_by (N := n_is_word) (sc := defScope s_is_word) (by decide +kernel)) (hvs_N (by decide)) (fun _ _ _ _ _ => (gn 1 sc_is_word.nd)) (fun _ _ _ _ _ => ts_nil) (fun _ _ _ _ _ => (d_cmp (o_in (u65 hr)) (dv 1) (d_gStr rfl T.c_LETTERS))))) a_nil)))
    ss_nil))
set_option maxHeartbeats 4000000 in
theorem ok_are_args (T : Tx K w mg C_CallersError C_NoBook C_NoName C_NoPiece C_NoPlace C_NoRow C_NoRun C_NoText C_Twice C_Lists) (F_is_word : Fn P w K mg base (XSd K) "is_word" 1 1 f_is_word)  {f : Addr} {fd : FuncData} (F : Fun K "are_args" "are_args" s_are_args f fd) : FnOk P w K mg base (L2.CX P w) 2 f fd [Str.ofString "thing"] (spD K (XSd K) 1 (runB 2 1 b_are_args)) :=
  fn_d F sc_are_args fun cdv A outer sh H E hr => by
  have tk : Takes (cxOf (L2.CX P w) P w K mg base n_are_args "are_args" (defScope s_are_args) f cdv A outer sh H E) (fun cls d _ H => E cls d H) := takes_of rfl rfl rfl rfl
  have hp : PassesOwn (model P w) (A.deeper (PyProof.Rows.envOfC "are_args" (defScope s_are_args) sh.heap.objs.size f cdv)) (PyProof.Rows.envOfC "are_args" (defScope s_are_args) sh.heap.objs.size f cdv) (cxOf (L2.CX P w) P w K mg base n_are_args "are_args" (defScope s_are_args) f cdv A outer sh H E).xe := passes_of (X := cxOf (L2.CX P w) P w K mg base n_are_args "are_args" (defScope s_are_args) f cdv A outer sh H E) rfl
  exact (ss_cons (s_ret (d_and (d_callB (x := "isinstance") c_isi (by rfl) T.b_isinstance bt_isinstance (a_cons (dv 0) (a_cons (d_ty (by rfl) T.b_tuple bt_tuple) a_nil))) (d_and (d_cmp o_le (d_callB (x := "len") c_len (by rfl) T.b_len bt_len (a_cons (dv 0) a_nil)) (d_gInt rfl T.c_MOST_ARGS)) (d_one (d_callB (x := "all") (c_all rfl) (by rfl) T.b_all bt_all (a_cons (d_new (l_comp (own := [("word", 1)]) rfl sc_are_args.nd (i_seq (dv 0)) (blkOk_by (N := n_are_args) (sc := defScope s_are_args) (by decide +kernel)) (hvs_N (by decide)) (fun _ _ _ _ _ => (gn 1 sc_are_args.nd)) (fun _ _ _ _ _ => ts_nil) (fun _ _ _ _ _ => (d_callF (x := "is_word") F_is_word takes0 (hr.mono (by decide)) (by rfl) (a_cons (dv 1) a_nil))))) a_nil))))))
    ss_nil)
set_option maxHeartbeats 4000000 in
theorem ok_are_leaves (T : Tx K w mg C_CallersError C_NoBook C_NoName C_NoPiece C_NoPlace C_NoRow C_NoRun C_NoText C_Twice C_Lists) (F_is_word : Fn P w K mg base (XSd K) "is_word" 1 1 f_is_word)  {f : Addr} {fd : FuncData} (F : Fun K "are_leaves" "are_leaves" s_are_leaves f fd) : FnOk P w K mg base (L2.CX P w) 2 f fd [Str.ofString "thing"] (spD K (XSd K) 1 (runB 3 1 b_are_leaves)) :=
  fn_d F sc_are_leaves fun cdv A outer sh H E hr => by
  have tk : Takes (cxOf (L2.CX P w) P w K mg base n_are_leaves "are_leaves" (defScope s_are_leaves) f cdv A outer sh H E) (fun cls d _ H => E cls d H) := takes_of rfl rfl rfl rfl
  have hp : PassesOwn (model P w) (A.deeper (PyProof.Rows.envOfC "are_leaves" (defScope s_are_leaves) sh.heap.objs.size f cdv)) (PyProof.Rows.envOfC "are_leaves" (defScope s_are_leaves) sh.heap.objs.size f cdv) (cxOf (L2.CX P w) P w K mg base n_are_leaves "are_leaves" (defScope s_are_leaves) f cdv A outer sh H E).xe := passes_of (X := cxOf (L2.CX P w) P w K mg base n_are_leaves "are_leaves" (defScope s_are_leaves) f cdv A outer sh H E) rfl
  exact (ss_cons (s_if (PW.pt (w_or (t_not (t_val (d_callB (x := "isinstance") c_isi (by rfl) T.b_isinstance bt_isinstance (a_cons (dv 0) (a_cons (d_ty (by rfl) T.b_tuple bt_tuple) a_nil))))) (w_or1 (t_cmp o_gt (d_callB (x := "len") c_len (by rfl) T.b_len bt_len (a_cons (dv 0) a_nil)) (d_gInt rfl T.c_MOST))))) (ss_cons (s_ret d_bl)
    ss_nil) ss_nil)
    (ss_cons (s_for hp rfl (i_enumerate rfl T.b_enumerate (a_cons (dv 0) a_nil)) (g_tup rfl sc_are_leaves.nd (gc 1 (gc 2 .nil))) (b := t1_are_leaves) (ss_cons (s_if (PW.pt (w_or (t_not (t_val (d_callF (x := "is_word") F_is_word tk (hr.mono (by decide)) (by rfl) (a_cons (dv 2) a_nil)))) (w_or1 (PW.pt (w_and (t_cmp o_gt (dv 1) d_int) (w_and1 (t_cmp o_le (dv 2) (d_ix (dv 0) (d_bin o_sub (dv 1) d_int) (fun _ _ => rfl))))))))) (ss_cons (s_ret d_bl)
    ss_nil) ss_nil)
    ss_nil))
    (ss_cons (s_ret d_bl)
    ss_nil)))
set_option maxHeartbeats 4000000 in
theorem ok_is_number (T : Tx K w mg C_CallersError C_NoBook C_NoName C_NoPiece C_NoPlace C_NoRow C_NoRun C_NoText C_Twice C_Lists) (F_is_whole : Fn P w K mg base (XSd K) "is_whole" 1 1 f_is_whole)  {f : Addr} {fd : FuncData} (F : Fun K "is_number" "is_number" s_is_number f fd) : FnOk P w K mg base (L2.CX P w) 2 f fd [Str.ofString "thing"] (spD K (XSd K) 1 (runB 1 1 b_is_number)) :=
  fn_d F sc_is_number fun cdv A outer sh H E hr => by
  have tk : Takes (cxOf (L2.CX P w) P w K mg base n_is_number "is_number" (defScope s_is_number) f cdv A outer sh H E) (fun cls d _ H => E cls d H) := takes_of rfl rfl rfl rfl
  have hp : PassesOwn (model P w) (A.deeper (PyProof.Rows.envOfC "is_number" (defScope s_is_number) sh.heap.objs.size f cdv)) (PyProof.Rows.envOfC "is_number" (defScope s_is_number) sh.heap.objs.size f cdv) (cxOf (L2.CX P w) P w K mg base n_is_number "is_number" (defScope s_is_number) f cdv A outer sh H E).xe := passes_of (X := cxOf (L2.CX P w) P w K mg base n_is_number "is_number" (defScope s_is_number) f cdv A outer sh H E) rfl
  exact (ss_cons (s_ret (d_and (d_callF (x := "is_whole") F_is_whole tk (hr.mono (by decide)) (by rfl) (a_cons (dv 0) a_nil)) (d_one (d_cmp o_le (d_callB (x := "abs") c_abs (by rfl) T.b_abs bt_abs (a_cons (dv 0) a_nil)) (d_gInt rfl T.c_GREATEST)))))
    ss_nil)
set_option maxHeartbeats 4000000 in
theorem ok_is_part (T : Tx K w mg C_CallersError C_NoBook C_NoName C_NoPiece C_NoPlace C_NoRow C_NoRun C_NoText C_Twice C_Lists) (F_are_args : Fn P w K mg base (XSd K) "are_args" 2 1 f_are_args) (F_are_leaves : Fn P w K mg base (XSd K) "are_leaves" 2 1 f_are_leaves) (F_is_number : Fn P w K mg base (XSd K) "is_number" 2 1 f_is_number) (F_is_whole : Fn P w K mg base (XSd K) "is_whole" 1 1 f_is_whole) (F_is_word : Fn P w K mg base (XSd K) "is_word" 1 1 f_is_word)  {f : Addr} {fd : FuncData} (F : Fun K "is_part" "is_part" s_is_part f fd) : FnOk P w K mg base (L2.CX P w) 3 f fd [Str.ofString "sort", Str.ofString "thing"] (spD K (XSd K) 2 (runB 2 2 b_is_part)) :=
  fn_d F sc_is_part fun cdv A outer sh H E hr => by
  have tk : Takes (cxOf (L2.CX P w) P w K mg base n_is_part "is_part" (defScope s_is_part) f cdv A outer sh H E) (fun cls d _ H => E cls d H) := takes_of rfl rfl rfl rfl
  have hp : PassesOwn (model P w) (A.deeper (PyProof.Rows.envOfC "is_part" (defScope s_is_part) sh.heap.objs.size f cdv)) (PyProof.Rows.envOfC "is_part" (defScope s_is_part) sh.heap.objs.size f cdv) (cxOf (L2.CX P w) P w K mg base n_is_part "is_part" (defScope s_is_part) f cdv A outer sh H E).xe := passes_of (X := cxOf (L2.CX P w) P w K mg base n_is_part "is_part" (defScope s_is_part) f cdv A outer sh H E) rfl
  exact (ss_cons (s_if (t_cmp (o_eq hr.units) (dv 0) d_str) (ss_cons (s_ret (d_callF (x := "is_word") F_is_word tk (hr.mono (by decide)) (by rfl) (a_cons (dv 1) a_nil)))
    ss_nil) ss_nil)
    (ss_cons (s_if (t_cmp (o_eq hr.units) (dv 0) d_str) (ss_cons (s_ret (d_callF (x := "is_number") F_is_number tk (hr.mono (by decide)) (by rfl) (a_cons (dv 1) a_nil)))
    ss_nil) ss_nil)
    (ss_cons (s_if (t_cmp (o_eq hr.units) (dv 0) d_str) (ss_cons (s_ret (d_callF (x := "are_args") F_are_args tk (hr.mono (by decide)) (by rfl) (a_cons (dv 1) a_nil)))
    ss_nil) ss_nil)
    (ss_cons (s_if (t_cmp (o_eq hr.units) (dv 0) d_str) (ss_cons (s_ret (d_callF (x := "are_leaves") F_are_leaves tk (hr.mono (by decide)) (by rfl) (a_cons (dv 1) a_nil)))
    ss_nil) ss_nil)
    (ss_cons (s_ret (d_and (d_callF (x := "is_whole") F_is_whole tk (hr.mono (by decide)) (by rfl) (a_cons (dv 1) a_nil)) (d_one (d_cmp o_gt (dv 1) d_int))))
    ss_nil)))))
set_option maxHeartbeats 4000000 in
theorem ok_is_row (T : Tx K w mg C_CallersError C_NoBook C_NoName C_NoPiece C_NoPlace C_NoRow C_NoRun C_NoText C_Twice C_Lists) (F_is_part : Fn P w K mg base (XSd K) "is_part" 3 2 f_is_part)  {f : Addr} {fd : FuncData} (F : Fun K "is_row" "is_row" s_is_row f fd) : FnOk P w K mg base (L2.CX P w) 4 f fd [Str.ofString "thing"] (spD K (XSd K) 1 (runB 3 1 b_is_row)) :=
  fn_d F sc_is_row fun cdv A outer sh H E hr => by
  have tk : Takes (cxOf (L2.CX P w) P w K mg base n_is_row "is_row" (defScope s_is_row) f cdv A outer sh H E) (fun cls d _ H => E cls d H) := takes_of rfl rfl rfl rfl
  have hp : PassesOwn (model P w) (A.deeper (PyProof.Rows.envOfC "is_row" (defScope s_is_row) sh.heap.objs.size f cdv)) (PyProof.Rows.envOfC "is_row" (defScope s_is_row) sh.heap.objs.size f cdv) (cxOf (L2.CX P w) P w K mg base n_is_row "is_row" (defScope s_is_row) f cdv A outer sh H E).xe := passes_of (X := cxOf (L2.CX P w) P w K mg base n_is_row "is_row" (defScope s_is_row) f cdv A outer sh H E) rfl
  exact (ss_cons (s_if (PW.pt (w_or (t_not (t_val (d_callB (x := "isinstance") c_isi (by rfl) T.b_isinstance bt_isinstance (a_cons (dv 0) (a_cons (d_ty (by rfl) T.b_tuple bt_tuple) a_nil))))) (w_or (t_cmp (o_eq hr.units) (dv 0) (d_tup a_nil)) (w_or1 (t_not (t_val (d_callB (x := "isinstance") c_isi (by rfl) T.b_isinstance bt_isinstance (a_cons (d_ix (dv 0) d_int (fun _ _ => rfl)) (a_cons (d_ty (by rfl) T.b_str bt_str) a_nil))))))))) (ss_cons (s_ret d_bl)
    ss_nil) ss_nil)
    (ss_cons (s_if (PW.pt (w_or (t_tabNin T.t_PARTS rfl (d_ix (dv 0) d_int (fun _ _ => rfl))) (w_or1 (t_cmp (o_ne hr.units) (d_callB (x := "len") c_len (by rfl) T.b_len bt_len (a_cons (dv 0) a_nil)) (d_bin o_add (d_callB (x := "len") c_len (by rfl) T.b_len bt_len (a_cons (d_tabIx T.t_PARTS rfl (d_ix (dv 0) d_int (fun _ _ => rfl)) (fun _ _ => rfl)) a_nil)) d_int))))) (ss_cons (s_ret d_bl)
    ss_nil) ss_nil)
    (ss_cons (s_ret (d_callB (x := "all") (c_all rfl) (by rfl) T.b_all bt_all (a_cons (d_new (l_comp (own := [("sort", 1), ("part", 2)]) rfl sc_is_row.nd (i_zip rfl T.b_zip (a_cons (d_tabIx T.t_PARTS rfl (d_ix (dv 0) d_int (fun _ _ => rfl)) (fun _ _ => rfl)) (a_cons (d_slice (dv 0) (op_some d_int) op_none) a_nil))) (blkOk_by (N := n_is_row) (sc := defScope s_is_row) (by decide +kernel)) (hvs_T (by decide)) (fun _ _ _ _ _ => (g_tup rfl sc_is_row.nd (gc 1 (gc 2 .nil)))) (fun _ _ _ _ _ => ts_nil) (fun _ _ _ _ _ => (d_callF (x := "is_part") F_is_part takes0 (hr.mono (by decide)) (by rfl) (a_cons (dv 1) (a_cons (dv 2) a_nil)))))) a_nil)))
    ss_nil)))
set_option maxHeartbeats 4000000 in
theorem ok_bad_row (T : Tx K w mg C_CallersError C_NoBook C_NoName C_NoPiece C_NoPlace C_NoRow C_NoRun C_NoText C_Twice C_Lists) (F_goes_over : Fn P w K mg base (XSd K) "goes_over" 1 1 f_goes_over) (F_is_row : Fn P w K mg base (XSd K) "is_row" 4 1 f_is_row)  {f : Addr} {fd : FuncData} (F : Fun K "bad_row" "bad_row" s_bad_row f fd) : FnOk P w K mg base (L2.CX P w) 5 f fd [Str.ofString "rows"] (spD K (XSd K) 1 (runB 3 1 b_bad_row)) :=
  fn_d F sc_bad_row fun cdv A outer sh H E hr => by
  have tk : Takes (cxOf (L2.CX P w) P w K mg base n_bad_row "bad_row" (defScope s_bad_row) f cdv A outer sh H E) (fun cls d _ H => E cls d H) := takes_of rfl rfl rfl rfl
  have hp : PassesOwn (model P w) (A.deeper (PyProof.Rows.envOfC "bad_row" (defScope s_bad_row) sh.heap.objs.size f cdv)) (PyProof.Rows.envOfC "bad_row" (defScope s_bad_row) sh.heap.objs.size f cdv) (cxOf (L2.CX P w) P w K mg base n_bad_row "bad_row" (defScope s_bad_row) f cdv A outer sh H E).xe := passes_of (X := cxOf (L2.CX P w) P w K mg base n_bad_row "bad_row" (defScope s_bad_row) f cdv A outer sh H E) rfl
  exact (ss_cons (s_for hp rfl (i_enumerate rfl T.b_enumerate (a_cons (dv 0) a_nil)) (g_tup rfl sc_bad_row.nd (gc 1 (gc 2 .nil))) (b := t1_bad_row) (ss_cons (s_if (PW.pt (w_or (t_not (t_val (d_callF (x := "is_row") F_is_row tk (hr.mono (by decide)) (by rfl) (a_cons (dv 2) a_nil)))) (w_or1 (t_cmp o_gt (d_bin o_add (d_bin o_add (dv 1) d_int) (d_callF (x := "goes_over") F_goes_over tk (hr.mono (by decide)) (by rfl) (a_cons (dv 2) a_nil))) (d_callB (x := "len") c_len (by rfl) T.b_len bt_len (a_cons (dv 0) a_nil)))))) (ss_cons (s_ret (dv 1))
    ss_nil) ss_nil)
    ss_nil))
    (ss_cons (s_ret d_non)
    ss_nil))
set_option maxHeartbeats 4000000 in
theorem ok_is_head (T : Tx K w mg C_CallersError C_NoBook C_NoName C_NoPiece C_NoPlace C_NoRow C_NoRun C_NoText C_Twice C_Lists) (F_are_args : Fn P w K mg base (XSd K) "are_args" 2 1 f_are_args) (F_are_leaves : Fn P w K mg base (XSd K) "are_leaves" 2 1 f_are_leaves) (F_is_word : Fn P w K mg base (XSd K) "is_word" 1 1 f_is_word)  {f : Addr} {fd : FuncData} (F : Fun K "is_head" "is_head" s_is_head f fd) : FnOk P w K mg base (L2.CX P w) 3 f fd [Str.ofString "thing"] (spD K (XSd K) 1 (runB 5 1 b_is_head)) :=
  fn_d F sc_is_head fun cdv A outer sh H E hr => by
  have tk : Takes (cxOf (L2.CX P w) P w K mg base n_is_head "is_head" (defScope s_is_head) f cdv A outer sh H E) (fun cls d _ H => E cls d H) := takes_of rfl rfl rfl rfl
  have hp : PassesOwn (model P w) (A.deeper (PyProof.Rows.envOfC "is_head" (defScope s_is_head) sh.heap.objs.size f cdv)) (PyProof.Rows.envOfC "is_head" (defScope s_is_head) sh.heap.objs.size f cdv) (cxOf (L2.CX P w) P w K mg base n_is_head "is_head" (defScope s_is_head) f cdv A outer sh H E).xe := passes_of (X := cxOf (L2.CX P w) P w K mg base n_is_head "is_head" (defScope s_is_head) f cdv A outer sh H E) rfl
  exact (ss_cons (s_if (PW.pt (w_or (t_not (t_val (d_callB (x := "isinstance") c_isi (by rfl) T.b_isinstance bt_isinstance (a_cons (dv 0) (a_cons (d_ty (by rfl) T.b_tuple bt_tuple) a_nil))))) (w_or1 (t_cmp (o_ne hr.units) (d_callB (x := "len") c_len (by rfl) T.b_len bt_len (a_cons (dv 0) a_nil)) d_int)))) (ss_cons (s_ret d_bl)
    ss_nil) ss_nil)
    (ss_cons (s_unp (dv 0) (g_any rfl sc_is_head.nd (gc 1 (gc 2 (gc 3 (gc 4 .nil))))))
    (ss_cons (s_if (PW.pt (w_or (t_not (t_val (d_callF (x := "is_word") F_is_word tk (hr.mono (by decide)) (by rfl) (a_cons (dv 1) a_nil)))) (w_or (t_not (t_val (d_callF (x := "are_leaves") F_are_leaves tk (hr.mono (by decide)) (by rfl) (a_cons (dv 2) a_nil)))) (w_or (t_not (t_val (d_callF (x := "are_args") F_are_args tk (hr.mono (by decide)) (by rfl) (a_cons (dv 3) a_nil)))) (w_or1 (t_cmp (o_ne hr.units) (d_lenSet rfl rfl T.b_len rfl T.b_set (dv 3)) (d_callB (x := "len") c_len (by rfl) T.b_len bt_len (a_cons (dv 3) a_nil)))))))) (ss_cons (s_ret d_bl)
    ss_nil) ss_nil)
    (ss_cons (s_ret (d_and (d_callB (x := "isinstance") c_isi (by rfl) T.b_isinstance bt_isinstance (a_cons (dv 4) (a_cons (d_ty (by rfl) T.b_tuple bt_tuple) a_nil))) (d_one (d_chain o_le o_le d_int (d_callB (x := "len") c_len (by rfl) T.b_len bt_len (a_cons (dv 4) a_nil)) (d_gInt rfl T.c_MOST_ROWS)))))
    ss_nil))))
set_option maxHeartbeats 4000000 in
theorem ok_leaves_in (T : Tx K w mg C_CallersError C_NoBook C_NoName C_NoPiece C_NoPlace C_NoRow C_NoRun C_NoText C_Twice C_Lists)   {f : Addr} {fd : FuncData} (F : Fun K "leaves_in" "leaves_in" s_leaves_in f fd) : FnOk P w K mg base (L2.CX P w) 1 f fd [Str.ofString "row"] (spD K (XSd K) 1 (runB 1 1 b_leaves_in)) :=
  fn_d F sc_leaves_in fun cdv A outer sh H E hr => by
  have tk : Takes (cxOf (L2.CX P w) P w K mg base n_leaves_in "leaves_in" (defScope s_leaves_in) f cdv A outer sh H E) (fun cls d _ H => E cls d H) := takes_of rfl rfl rfl rfl
  have hp : PassesOwn (model P w) (A.deeper (PyProof.Rows.envOfC "leaves_in" (defScope s_leaves_in) sh.heap.objs.size f cdv)) (PyProof.Rows.envOfC "leaves_in" (defScope s_leaves_in) sh.heap.objs.size f cdv) (cxOf (L2.CX P w) P w K mg base n_leaves_in "leaves_in" (defScope s_leaves_in) f cdv A outer sh H E).xe := passes_of (X := cxOf (L2.CX P w) P w K mg base n_leaves_in "leaves_in" (defScope s_leaves_in) f cdv A outer sh H E) rfl
  exact (ss_cons (s_if (t_cmp (o_in (u65 hr)) (d_ix (dv 0) d_int (fun _ _ => rfl)) (d_tup (a_cons d_str (a_cons d_str a_nil)))) (ss_cons (s_ret (d_ix (dv 0) (d_neg d_int) (fun _ _ => rfl)))
    ss_nil) ss_nil)
    (ss_cons (s_if (t_cmp (o_in (u65 hr)) (d_ix (dv 0) d_int (fun _ _ => rfl)) (d_tup (a_cons d_str (a_cons d_str (a_cons d_str a_nil))))) (ss_cons (s_ret (d_tup (a_cons (d_ix (dv 0) d_int (fun _ _ => rfl)) a_nil)))
    ss_nil) ss_nil)
    (ss_cons (s_ret (d_tup a_nil))
    ss_nil)))
set_option maxHeartbeats 4000000 in
theorem ok_words_of (T : Tx K w mg C_CallersError C_NoBook C_NoName C_NoPiece C_NoPlace C_NoRow C_NoRun C_NoText C_Twice C_Lists) (F_leaves_in : Fn P w K mg base (XSd K) "leaves_in" 1 1 f_leaves_in)  {f : Addr} {fd : FuncData} (F : Fun K "words_of" "words_of" s_words_of f fd) : FnOk P w K mg base (L2.CX P w) 2 f fd [Str.ofString "piece"] (spD K (XSd K) 1 (runB 3 1 b_words_of)) :=
  fn_d F sc_words_of fun cdv A outer sh H E hr => by
  have tk : Takes (cxOf (L2.CX P w) P w K mg base n_words_of "words_of" (defScope s_words_of) f cdv A outer sh H E) (fun cls d _ H => E cls d H) := takes_of rfl rfl rfl rfl
  have hp : PassesOwn (model P w) (A.deeper (PyProof.Rows.envOfC "words_of" (defScope s_words_of) sh.heap.objs.size f cdv)) (PyProof.Rows.envOfC "words_of" (defScope s_words_of) sh.heap.objs.size f cdv) (cxOf (L2.CX P w) P w K mg base n_words_of "words_of" (defScope s_words_of) f cdv A outer sh H E).xe := passes_of (X := cxOf (L2.CX P w) P w K mg base n_words_of "words_of" (defScope s_words_of) f cdv A outer sh H E) rfl
  exact (ss_cons (sown 1 sc_words_of.nd (l_list rfl rfl T.b_list (a_cons (d_ix (dv 0) d_int (fun _ _ => rfl)) a_nil)))
    (ss_cons (s_for hp rfl (i_seq (d_ix (dv 0) d_int (fun _ _ => rfl))) (gn 2 sc_words_of.nd) (b := t1_words_of) (ss_cons (sext 1 (d_callF (x := "leaves_in") F_leaves_in tk (hr.mono (by decide)) (by rfl) (a_cons (dv 2) a_nil)))
    ss_nil))
    (ss_cons (s_frz 1 (s_ret (dv 1)))
    ss_nil)))
set_option maxHeartbeats 4000000 in
theorem ok_roster_in (T : Tx K w mg C_CallersError C_NoBook C_NoName C_NoPiece C_NoPlace C_NoRow C_NoRun C_NoText C_Twice C_Lists) (F_words_of : Fn P w K mg base (XSd K) "words_of" 2 1 f_words_of)  {f : Addr} {fd : FuncData} (F : Fun K "roster_in" "roster_in" s_roster_in f fd) : FnOk P w K mg base (L2.CX P w) 3 f fd [Str.ofString "book"] (spD K (XSd K) 1 (runB 3 1 b_roster_in)) :=
  fn_d F sc_roster_in fun cdv A outer sh H E hr => by
  have tk : Takes (cxOf (L2.CX P w) P w K mg base n_roster_in "roster_in" (defScope s_roster_in) f cdv A outer sh H E) (fun cls d _ H => E cls d H) := takes_of rfl rfl rfl rfl
  have hp : PassesOwn (model P w) (A.deeper (PyProof.Rows.envOfC "roster_in" (defScope s_roster_in) sh.heap.objs.size f cdv)) (PyProof.Rows.envOfC "roster_in" (defScope s_roster_in) sh.heap.objs.size f cdv) (cxOf (L2.CX P w) P w K mg base n_roster_in "roster_in" (defScope s_roster_in) f cdv A outer sh H E).xe := passes_of (X := cxOf (L2.CX P w) P w K mg base n_roster_in "roster_in" (defScope s_roster_in) f cdv A outer sh H E) rfl
  exact (ss_cons (sown 1 sc_roster_in.nd (l_lst a_nil))
    (ss_cons (s_for hp rfl (i_seq (dv 0)) (gn 2 sc_roster_in.nd) (b := t1_roster_in) (ss_cons (sext 1 (d_callF (x := "words_of") F_words_of tk (hr.mono (by decide)) (by rfl) (a_cons (dv 2) a_nil)))
    ss_nil))
    (ss_cons (s_frz 1 (s_ret (d_callT c_tup (by rfl) T.b_tuple bt_tuple (a_cons (d_new (l_sortSet rfl rfl T.b_sorted rfl T.b_set (dv 1))) a_nil))))
    ss_nil)))
set_option maxHeartbeats 4000000 in
theorem ok_look_at_book (T : Tx K w mg C_CallersError C_NoBook C_NoName C_NoPiece C_NoPlace C_NoRow C_NoRun C_NoText C_Twice C_Lists) (F_bad_row : Fn P w K mg base (XSd K) "bad_row" 5 1 f_bad_row) (F_is_head : Fn P w K mg base (XSd K) "is_head" 3 1 f_is_head) (F_roster_in : Fn P w K mg base (XSd K) "roster_in" 3 1 f_roster_in) (X_NoBook : ExFn P w K mg base "NoBook" 1 [Str.ofString "piece", Str.ofString "row"])  {f : Addr} {fd : FuncData} (F : Fun K "look_at_book" "look_at_book" s_look_at_book f fd) : FnOk P w K mg base (L2.CX P w) 6 f fd [Str.ofString "thing"] (spD K (XSd K) 1 (runB 5 1 b_look_at_book)) :=
  fn_d F sc_look_at_book fun cdv A outer sh H E hr => by
  have tk : Takes (cxOf (L2.CX P w) P w K mg base n_look_at_book "look_at_book" (defScope s_look_at_book) f cdv A outer sh H E) (fun cls d _ H => E cls d H) := takes_of rfl rfl rfl rfl
  have hp : PassesOwn (model P w) (A.deeper (PyProof.Rows.envOfC "look_at_book" (defScope s_look_at_book) sh.heap.objs.size f cdv)) (PyProof.Rows.envOfC "look_at_book" (defScope s_look_at_book) sh.heap.objs.size f cdv) (cxOf (L2.CX P w) P w K mg base n_look_at_book "look_at_book" (defScope s_look_at_book) f cdv A outer sh H E).xe := passes_of (X := cxOf (L2.CX P w) P w K mg base n_look_at_book "look_at_book" (defScope s_look_at_book) f cdv A outer sh H E) rfl
  exact (ss_cons (s_if (PW.pt (w_or (t_not (t_val (d_callB (x := "isinstance") c_isi (by rfl) T.b_isinstance bt_isinstance (a_cons (dv 0) (a_cons (d_ty (by rfl) T.b_list bt_list) a_nil))))) (w_or1 (t_not (t_chain o_le o_le d_int (d_callB (x := "len") c_len (by rfl) T.b_len bt_len (a_cons (dv 0) a_nil)) (d_gInt rfl T.c_MOST_PIECES)))))) (ss_cons (s_raise X_NoBook rfl tk (hr.mono (by decide)) (by rfl) (by decide) (a_cons d_non (a_cons d_non a_nil)))
    ss_nil) ss_nil)
    (ss_cons (s_for hp rfl (i_enumerate rfl T.b_enumerate (a_cons (dv 0) a_nil)) (g_tup rfl sc_look_at_book.nd (gc 1 (gc 2 .nil))) (b := t1_look_at_book) (ss_cons (s_if (PW.pt (w_or (t_not (t_val (d_callF (x := "is_head") F_is_head tk (hr.mono (by decide)) (by rfl) (a_cons (dv 2) a_nil)))) (w_or1 (t_cmp (o_in (u65 hr)) (d_ix (dv 2) d_int (fun _ _ => rfl)) (d_new (l_comp (own := [("one", 4)]) rfl sc_look_at_book.nd (i_seq (d_slice (dv 0) op_none (op_some (dv 1)))) (blkOk_by (N := n_look_at_book) (sc := defScope s_look_at_book) (by decide +kernel)) (hvs_N (by decide)) (fun _ _ _ _ _ => (gn 4 sc_look_at_book.nd)) (fun _ _ _ _ _ => ts_nil) (fun _ _ _ _ _ => (d_ix (dv 4) d_int (fun _ _ => rfl))))))))) (ss_cons (s_raise X_NoBook rfl tk (hr.mono (by decide)) (by rfl) (by decide) (a_cons (dv 1) (a_cons d_non a_nil)))
    ss_nil) ss_nil)
    (ss_cons (sset 3 sc_look_at_book.nd (d_callF (x := "bad_row") F_bad_row tk (hr.mono (by decide)) (by rfl) (a_cons (d_ix (dv 2) d_int (fun _ _ => rfl)) a_nil)))
    (ss_cons (s_if (t_cmp o_isnot (dv 3) d_non) (ss_cons (s_raise X_NoBook rfl tk (hr.mono (by decide)) (by rfl) (by decide) (a_cons (dv 1) (a_cons (dv 3) a_nil)))
    ss_nil) ss_nil)
    ss_nil))))
    (ss_cons (s_if (t_cmp o_gt (d_callB (x := "len") c_len (by rfl) T.b_len bt_len (a_cons (d_callF (x := "roster_in") F_roster_in tk (hr.mono (by decide)) (by rfl) (a_cons (dv 0) a_nil)) a_nil)) (d_gInt rfl T.c_MOST_LEAVES)) (ss_cons (s_raise X_NoBook rfl tk (hr.mono (by decide)) (by rfl) (by decide) (a_cons d_non (a_cons d_non a_nil)))
    ss_nil) ss_nil)
    ss_nil)))
set_option maxHeartbeats 4000000 in
theorem ok_Lists____init__ (T : Tx K w mg C_CallersError C_NoBook C_NoName C_NoPiece C_NoPlace C_NoRow C_NoRun C_NoText C_Twice C_Lists)   {f : Addr} {fd : FuncData} (F : Fun K "__init__" "Lists.__init__" s_Lists____init__ f fd) : FnOk P w K mg base (L2.CX P w) 1 f fd [Str.ofString "self", Str.ofString "table"] (spD K (XSd K) 2 (runB 2 2 b_Lists____init__)) :=
  fn_d F sc_Lists____init__ fun cdv A outer sh H E hr => by
  have tk : Takes (cxOf (L2.CX P w) P w K mg base n_Lists____init__ "Lists.__init__" (defScope s_Lists____init__) f cdv A outer sh H E) (fun cls d _ H => E cls d H) := takes_of rfl rfl rfl rfl
  have hp : PassesOwn (model P w) (A.deeper (PyProof.Rows.envOfC "Lists.__init__" (defScope s_Lists____init__) sh.heap.objs.size f cdv)) (PyProof.Rows.envOfC "Lists.__init__" (defScope s_Lists____init__) sh.heap.objs.size f cdv) (cxOf (L2.CX P w) P w K mg base n_Lists____init__ "Lists.__init__" (defScope s_Lists____init__) f cdv A outer sh H E).xe := passes_of (X := cxOf (L2.CX P w) P w K mg base n_Lists____init__ "Lists.__init__" (defScope s_Lists____init__) f cdv A outer sh H E) rfl
  exact (ss_cons (s_fldT rfl (csfs_cons (csf_cons T.oc_Lists T.ol_Lists T.on_Lists_stands csf_nil) (csfs_cons (csf_cons T.oc_Lists T.ol_Lists T.on_Lists_holds csf_nil) (csfs_cons (csf_cons T.oc_Lists T.ol_Lists T.on_Lists_kept_tags csf_nil) (csfs_cons (csf_cons T.oc_Lists T.ol_Lists T.on_Lists_given_tags csf_nil) csfs_nil)))) (dv 1) (.cons (dv 0) (.cons (dv 0) (.cons (dv 0) (.cons (dv 0) .nil)))))
    ss_nil)
set_option maxHeartbeats 4000000 in
theorem ok_Lists__standing (T : Tx K w mg C_CallersError C_NoBook C_NoName C_NoPiece C_NoPlace C_NoRow C_NoRun C_NoText C_Twice C_Lists)   {f : Addr} {fd : FuncData} (F : Fun K "standing" "Lists.standing" s_Lists__standing f fd) : FnOk P w K mg base (L2.CX P w) 1 f fd [Str.ofString "self", Str.ofString "name", Str.ofString "at"] (spD K (XSd K) 3 (runB 3 3 b_Lists__standing)) :=
  fn_d F sc_Lists__standing fun cdv A outer sh H E hr => by
  have tk : Takes (cxOf (L2.CX P w) P w K mg base n_Lists__standing "Lists.standing" (defScope s_Lists__standing) f cdv A outer sh H E) (fun cls d _ H => E cls d H) := takes_of rfl rfl rfl rfl
  have hp : PassesOwn (model P w) (A.deeper (PyProof.Rows.envOfC "Lists.standing" (defScope s_Lists__standing) sh.heap.objs.size f cdv)) (PyProof.Rows.envOfC "Lists.standing" (defScope s_Lists__standing) sh.heap.objs.size f cdv) (cxOf (L2.CX P w) P w K mg base n_Lists__standing "Lists.standing" (defScope s_Lists__standing) f cdv A outer sh H E).xe := passes_of (X := cxOf (L2.CX P w) P w K mg base n_Lists__standing "Lists.standing" (defScope s_Lists__standing) f cdv A outer sh H E) rfl
  exact (ss_cons (s_ret (d_new (l_list rfl rfl T.b_list (a_cons (d_getT (units1 hr) (d_fld (csf_cons T.oc_Lists T.ol_Lists T.on_Lists_stands csf_nil) (dv 0)) (a_cons (dv 1) (a_cons (dv 2) a_nil)) (d_lst a_nil)) a_nil))))
    ss_nil)
set_option maxHeartbeats 4000000 in
theorem ok_verdict_in (T : Tx K w mg C_CallersError C_NoBook C_NoName C_NoPiece C_NoPlace C_NoRow C_NoRun C_NoText C_Twice C_Lists)  (M_Lists_standing : Mt P w K mg base (XSd K) "Lists" "standing" 1 3 f_Lists__standing) (K_Lists : MkF P w K mg base (XSd K) "Lists" 1 2 f_Lists____init__)  {f : Addr} {fd : FuncData} (F : Fun K "verdict_in" "verdict_in" s_verdict_in f fd) : FnOk P w K mg base (L2.CX P w) 3 f fd [Str.ofString "table", Str.ofString "place", Str.ofString "word"] (spD K (XSd K) 3 (runB 5 3 b_verdict_in)) :=
  fn_d F sc_verdict_in fun cdv A outer sh H E hr => by
  have tk : Takes (cxOf (L2.CX P w) P w K mg base n_verdict_in "verdict_in" (defScope s_verdict_in) f cdv A outer sh H E) (fun cls d _ H => E cls d H) := takes_of rfl rfl rfl rfl
  have hp : PassesOwn (model P w) (A.deeper (PyProof.Rows.envOfC "verdict_in" (defScope s_verdict_in) sh.heap.objs.size f cdv)) (PyProof.Rows.envOfC "verdict_in" (defScope s_verdict_in) sh.heap.objs.size f cdv) (cxOf (L2.CX P w) P w K mg base n_verdict_in "verdict_in" (defScope s_verdict_in) f cdv A outer sh H E).xe := passes_of (X := cxOf (L2.CX P w) P w K mg base n_verdict_in "verdict_in" (defScope s_verdict_in) f cdv A outer sh H E) rfl
  exact (ss_cons (s_setLcV (own := [("leaves", 4)]) rfl sc_verdict_in.nd (i := 3) rfl rfl (sw_true rfl rfl rfl (by decide +kernel)) (i_seq (d_meth (m := "standing") (k := 1) (mts_cons M_Lists_standing (by decide) mts_nil) tk (hr.mono (by decide)) (d_make (c := "Lists") K_Lists tk (hr.mono (by decide)) (by rfl) (a_cons (dv 0) a_nil)) (a_cons (d_ix (dv 1) d_int (fun _ _ => rfl)) (a_cons (d_ix (dv 1) d_int (fun _ _ => rfl)) a_nil)))) (blkOk_by (N := n_verdict_in) (sc := defScope s_verdict_in) (by decide +kernel)) (hvs_N (by decide)) (fun _ _ _ _ _ => (gn 4 sc_verdict_in.nd)) (fun _ _ _ _ _ => ts_nil) (fun _ _ _ _ _ => (d_cmp (o_in (u65 hr)) (dv 2) (dv 4))))
    (ss_cons (s_if (t_cmp (o_eq hr.units) (dv 3) (d_lst a_nil)) (ss_cons (s_ret d_str)
    ss_nil) ss_nil)
    (ss_cons (s_if (t_val (d_callB (x := "all") (c_all rfl) (by rfl) T.b_all bt_all (a_cons (dv 3) a_nil))) (ss_cons (s_ret d_str)
    ss_nil) ss_nil)
    (ss_cons (s_if (t_val (d_callB (x := "any") (c_any rfl) (by rfl) T.b_any bt_any (a_cons (dv 3) a_nil))) (ss_cons (s_ret d_str)
    ss_nil) ss_nil)
    (ss_cons (s_ret d_str)
    ss_nil)))))
set_option maxHeartbeats 4000000 in
theorem ok_verdict_at (T : Tx K w mg C_CallersError C_NoBook C_NoName C_NoPiece C_NoPlace C_NoRow C_NoRun C_NoText C_Twice C_Lists) (F_is_place : Fn P w K mg base (XSd K) "is_place" 2 2 f_is_place) (F_look_at_book : Fn P w K mg base (XSd K) "look_at_book" 6 1 f_look_at_book) (F_piece_in : Fn P w K mg base (XSd K) "piece_in" 1 2 f_piece_in) (F_verdict_in : Fn P w K mg base (XSd K) "verdict_in" 3 3 f_verdict_in)  {f : Addr} {fd : FuncData} (F : Fun K "verdict_at" "verdict_at" s_verdict_at f fd) : FnOk P w K mg base (L2.CX P w) 7 f fd [Str.ofString "book", Str.ofString "table", Str.ofString "place"] (spD K (XSd K) 3 (runB 4 3 b_verdict_at)) :=
  fn_d F sc_verdict_at fun cdv A outer sh H E hr => by
  have tk : Takes (cxOf (L2.CX P w) P w K mg base n_verdict_at "verdict_at" (defScope s_verdict_at) f cdv A outer sh H E) (fun cls d _ H => E cls d H) := takes_of rfl rfl rfl rfl
  have hp : PassesOwn (model P w) (A.deeper (PyProof.Rows.envOfC "verdict_at" (defScope s_verdict_at) sh.heap.objs.size f cdv)) (PyProof.Rows.envOfC "verdict_at" (defScope s_verdict_at) sh.heap.objs.size f cdv) (cxOf (L2.CX P w) P w K mg base n_verdict_at "verdict_at" (defScope s_verdict_at) f cdv A outer sh H E).xe := passes_of (X := cxOf (L2.CX P w) P w K mg base n_verdict_at "verdict_at" (defScope s_verdict_at) f cdv A outer sh H E) rfl
  exact (ss_cons (s_expr (d_callF (x := "look_at_book") F_look_at_book tk (hr.mono (by decide)) (by rfl) (a_cons (dv 0) a_nil)))
    (ss_cons (s_if (t_not (t_val (d_callF (x := "is_place") F_is_place tk (hr.mono (by decide)) (by rfl) (a_cons (dv 0) (a_cons (dv 2) a_nil))))) (ss_cons (s_raise0 PySem.F.excBase_ValueError T.q_NoPlace T.k_NoPlace T.kc_NoPlace rfl tk (by rfl))
    ss_nil) ss_nil)
    (ss_cons (sset 3 sc_verdict_at.nd (d_ix (d_ix (d_callF (x := "piece_in") F_piece_in tk (hr.mono (by decide)) (by rfl) (a_cons (dv 0) (a_cons (d_ix (dv 2) d_int (fun _ _ => rfl)) a_nil))) d_int (fun _ _ => rfl)) (d_ix (dv 2) d_int (fun _ _ => rfl)) (fun _ _ => rfl)))
    (ss_cons (s_if (t_cmp (o_nin (u65 hr)) (d_ix (dv 3) d_int (fun _ _ => rfl)) (d_tup (a_cons d_str (a_cons d_str a_nil)))) (ss_cons (s_raise0 PySem.F.excBase_ValueError T.q_NoPlace T.k_NoPlace T.kc_NoPlace rfl tk (by rfl))
    ss_nil) ss_nil)
    (ss_cons (s_ret (d_callF (x := "verdict_in") F_verdict_in tk (hr.mono (by decide)) (by rfl) (a_cons (dv 1) (a_cons (dv 2) (a_cons (d_ix (dv 3) d_int (fun _ _ => rfl)) a_nil)))))
    ss_nil)))))
set_option maxHeartbeats 4000000 in
theorem ok_l_told (T : Tx K w mg C_CallersError C_NoBook C_NoName C_NoPiece C_NoPlace C_NoRow C_NoRun C_NoText C_Twice C_Lists) (F_verdict_at : Fn P w K mg base (XSd K) "verdict_at" 7 3 f_verdict_at)  {f : Addr} {fd : FuncData} (F : Fun K "_law_told" "_law_told" s_l_told f fd) : FnOk P w K mg base (L2.CX P w) 8 f fd [Str.ofString "_law_book", Str.ofString "_law_place_here"] (spD K (XSd K) 2 (runB 6 2 b_l_told)) :=
  fn_d F sc_l_told fun cdv A outer sh H E hr => by
  have tk : Takes (cxOf (L2.CX P w) P w K mg base n_l_told "_law_told" (defScope s_l_told) f cdv A outer sh H E) (fun cls d _ H => E cls d H) := takes_of rfl rfl rfl rfl
  have hp : PassesOwn (model P w) (A.deeper (PyProof.Rows.envOfC "_law_told" (defScope s_l_told) sh.heap.objs.size f cdv)) (PyProof.Rows.envOfC "_law_told" (defScope s_l_told) sh.heap.objs.size f cdv) (cxOf (L2.CX P w) P w K mg base n_l_told "_law_told" (defScope s_l_told) f cdv A outer sh H E).xe := passes_of (X := cxOf (L2.CX P w) P w K mg base n_l_told "_law_told" (defScope s_l_told) f cdv A outer sh H E) rfl
  exact (ss_cons (sset 2 sc_l_told.nd (d_tup (a_cons (d_dispT (ps := [((acons (cst (.str (Str.ofString "one"))) (acons (cst (.int 0)) anil)), (appN szL (acons (appN szT anil) (acons (appN szT (acons (cst (.str (Str.ofString "w"))) anil)) anil)))), ((acons (cst (.str (Str.ofString "two"))) (acons (cst (.int 1)) anil)), (appN szL (acons (appN szT (acons (cst (.str (Str.ofString "w"))) anil)) anil)))]) (units1 hr) (pps_cons (pe_tup (a_cons d_str (a_cons d_int a_nil))) (d_lst (a_cons (d_tup a_nil) (a_cons (d_tup (a_cons d_str a_nil)) a_nil))) (pps_cons (pe_tup (a_cons d_str (a_cons d_int a_nil))) (d_lst (a_cons (d_tup (a_cons d_str a_nil)) a_nil)) pps_nil))) (a_cons d_dict0 (a_cons d_dict0 (a_cons d_dict0 a_nil))))))
    (ss_cons (sset 3 sc_l_told.nd d_non)
    (ss_cons (sset 4 sc_l_told.nd d_non)
    (ss_cons (s_try (t := [(Str.ofString "NoBook", true), (Str.ofString "NoPlace", true)]) (i := 5) (j := 3) rfl rfl rfl sc_l_told.nd rfl rfl rfl rfl ⟨by rfl, by decide, .inl T.k_CallersError.mg⟩ tk (tab_cons ⟨_, T.k_NoBook.at_, exm_cls T.k_CallersError.ex T.k_CallersError.hd T.k_CallersError.ty T.s_NoBook_CallersError⟩ (tab_cons ⟨_, T.k_NoPlace.at_, exm_cls T.k_CallersError.ex T.k_CallersError.hd T.k_CallersError.ty T.s_NoPlace_CallersError⟩ tab_nil)) (fun W pn xe tk hp => (ss_cons (sset 4 sc_l_told.nd (d_callF (x := "verdict_at") F_verdict_at tk (hr.mono (by decide)) (by rfl) (a_cons (dv 0) (a_cons (dv 2) (a_cons (dv 1) a_nil)))))
    ss_nil)))
    (ss_cons (s_if (t_cmp o_is (dv 3) d_non) (ss_cons (s_ret (d_ix (d_lst (a_cons d_str (a_cons d_str a_nil))) (d_callT c_int (by rfl) T.b_int bt_int (a_cons (d_cmp (o_in (u65 hr)) (dv 4) (d_tup (a_cons d_str (a_cons d_str (a_cons d_str (a_cons d_str a_nil)))))) a_nil)) (fun _ _ => rfl)))
    ss_nil) ss_nil)
    (ss_cons (s_if (PW.pt (w_or (t_val (d_isXT (t := [(Str.ofString "NoBook", false), (Str.ofString "NoPlace", false)]) (vs := [C_NoText, C_NoRun, C_NoPiece, C_Twice, C_NoName, C_NoRow].map V.ref) (cvs := [C_NoText, C_NoRun, C_NoPiece, C_Twice, C_NoName, C_NoRow].map Value.ref) (dv 3) (pa_cons (pe_glob (v := .ref C_NoText) (by rfl) T.k_NoText.mg rfl) (pa_cons (pe_glob (v := .ref C_NoRun) (by rfl) T.k_NoRun.mg rfl) (pa_cons (pe_glob (v := .ref C_NoPiece) (by rfl) T.k_NoPiece.mg rfl) (pa_cons (pe_glob (v := .ref C_Twice) (by rfl) T.k_Twice.mg rfl) (pa_cons (pe_glob (v := .ref C_NoName) (by rfl) T.k_NoName.mg rfl) (pa_cons (pe_glob (v := .ref C_NoRow) (by rfl) T.k_NoRow.mg rfl) pa_nil)))))) (Nat.le_of_ble_eq_true rfl) (vals_refs [C_NoText, C_NoRun, C_NoPiece, C_Twice, C_NoName, C_NoRow]) (tab_cons ⟨_, T.k_NoBook.at_, T.e_NoBook, (kany_f (kit_ne T.n_NoBook_NoText T.k_NoText.hd T.k_NoText.ty T.s_NoBook_NoText) (kany_f (kit_ne T.n_NoBook_NoRun T.k_NoRun.hd T.k_NoRun.ty T.s_NoBook_NoRun) (kany_f (kit_ne T.n_NoBook_NoPiece T.k_NoPiece.hd T.k_NoPiece.ty T.s_NoBook_NoPiece) (kany_f (kit_ne T.n_NoBook_Twice T.k_Twice.hd T.k_Twice.ty T.s_NoBook_Twice) (kany_f (kit_ne T.n_NoBook_NoName T.k_NoName.hd T.k_NoName.ty T.s_NoBook_NoName) (kany_f (kit_ne T.n_NoBook_NoRow T.k_NoRow.hd T.k_NoRow.ty T.s_NoBook_NoRow) kany_nil))))))⟩ (tab_cons ⟨_, T.k_NoPlace.at_, T.e_NoPlace, (kany_f (kit_ne T.n_NoPlace_NoText T.k_NoText.hd T.k_NoText.ty T.s_NoPlace_NoText) (kany_f (kit_ne T.n_NoPlace_NoRun T.k_NoRun.hd T.k_NoRun.ty T.s_NoPlace_NoRun) (kany_f (kit_ne T.n_NoPlace_NoPiece T.k_NoPiece.hd T.k_NoPiece.ty T.s_NoPlace_NoPiece) (kany_f (kit_ne T.n_NoPlace_Twice T.k_Twice.hd T.k_Twice.ty T.s_NoPlace_Twice) (kany_f (kit_ne T.n_NoPlace_NoName T.k_NoName.hd T.k_NoName.ty T.s_NoPlace_NoName) (kany_f (kit_ne T.n_NoPlace_NoRow T.k_NoRow.hd T.k_NoRow.ty T.s_NoPlace_NoRow) kany_nil))))))⟩ tab_nil)) (by rfl) T.b_isinstance)) (w_or1 (t_not (t_val (d_isX (t := [(Str.ofString "NoBook", true), (Str.ofString "NoPlace", true)]) (cv := .type "ValueError") (dv 3) (pe_tyC (n := "ValueError") (by rfl) T.b_ValueError PyProof.Rows.Boot.«ValueError») (fun _ h => h) (tab_cons ⟨_, T.k_NoBook.at_, T.e_NoBook, (kit_type kitMeta_VE T.s_NoBook_ValueError)⟩ (tab_cons ⟨_, T.k_NoPlace.at_, T.e_NoPlace, (kit_type kitMeta_VE T.s_NoPlace_ValueError)⟩ tab_nil)) (by rfl) T.b_isinstance)))))) (ss_cons (s_ret d_str)
    ss_nil) ss_nil)
    (ss_cons (s_if (t_val (d_isX (t := [(Str.ofString "NoBook", true), (Str.ofString "NoPlace", false)]) (cv := .ref C_NoBook) (dv 3) (pe_glob (v := .ref C_NoBook) (by rfl) T.k_NoBook.mg rfl) (fun _ h => h) (tab_cons ⟨_, T.k_NoBook.at_, T.e_NoBook, kit_self⟩ (tab_cons ⟨_, T.k_NoPlace.at_, T.e_NoPlace, (kit_ne T.n_NoPlace_NoBook T.k_NoBook.hd T.k_NoBook.ty T.s_NoPlace_NoBook)⟩ tab_nil)) (by rfl) T.b_isinstance)) (ss_cons (s_ret (d_ix (d_lst (a_cons d_str (a_cons d_str a_nil))) (d_callT c_int (by rfl) T.b_int bt_int (a_cons (d_isX (t := [(Str.ofString "NoBook", false), (Str.ofString "NoPlace", true)]) (cv := .ref C_NoPlace) (dv 3) (pe_glob (v := .ref C_NoPlace) (by rfl) T.k_NoPlace.mg rfl) (fun _ h => h) (tab_cons ⟨_, T.k_NoBook.at_, T.e_NoBook, (kit_ne T.n_NoBook_NoPlace T.k_NoPlace.hd T.k_NoPlace.ty T.s_NoBook_NoPlace)⟩ (tab_cons ⟨_, T.k_NoPlace.at_, T.e_NoPlace, kit_self⟩ tab_nil)) (by rfl) T.b_isinstance) a_nil)) (fun _ _ => rfl)))
    ss_nil) ss_nil)
    (ss_cons (s_ret (d_ix (d_lst (a_cons d_str (a_cons d_str a_nil))) (d_callT c_int (by rfl) T.b_int bt_int (a_cons (d_isX (t := [(Str.ofString "NoBook", false), (Str.ofString "NoPlace", true)]) (cv := .ref C_NoPlace) (dv 3) (pe_glob (v := .ref C_NoPlace) (by rfl) T.k_NoPlace.mg rfl) (fun _ h => h) (tab_cons ⟨_, T.k_NoBook.at_, T.e_NoBook, (kit_ne T.n_NoBook_NoPlace T.k_NoPlace.hd T.k_NoPlace.ty T.s_NoBook_NoPlace)⟩ (tab_cons ⟨_, T.k_NoPlace.at_, T.e_NoPlace, kit_self⟩ tab_nil)) (by rfl) T.b_isinstance) a_nil)) (fun _ _ => rfl)))
    ss_nil))))))))
set_option maxHeartbeats 4000000 in
theorem ok_law (T : Tx K w mg C_CallersError C_NoBook C_NoName C_NoPiece C_NoPlace C_NoRow C_NoRun C_NoText C_Twice C_Lists) (F_l_good : Fn P w K mg base (XSd K) "_law_good" 1 1 f_l_good) (F_l_numbers : Fn P w K mg base (XSd K) "_law_numbers" 1 2 f_l_numbers) (F_l_place : Fn P w K mg base (XSd K) "_law_place" 1 1 f_l_place) (F_l_told : Fn P w K mg base (XSd K) "_law_told" 8 2 f_l_told)  {f : Addr} {fd : FuncData} (F : Fun K "law" "law" s_law f fd) : FnOk P w K mg base (L2.CX P w) 9 f fd [Str.ofString "_law_script"] (spD K (XSd K) 1 (runB 5 1 b_law)) :=
  fn_d F sc_law fun cdv A outer sh H E hr => by
  have tk : Takes (cxOf (L2.CX P w) P w K mg base n_law "law" (defScope s_law) f cdv A outer sh H E) (fun cls d _ H => E cls d H) := takes_of rfl rfl rfl rfl
  have hp : PassesOwn (model P w) (A.deeper (PyProof.Rows.envOfC "law" (defScope s_law) sh.heap.objs.size f cdv)) (PyProof.Rows.envOfC "law" (defScope s_law) sh.heap.objs.size f cdv) (cxOf (L2.CX P w) P w K mg base n_law "law" (defScope s_law) f cdv A outer sh H E).xe := passes_of (X := cxOf (L2.CX P w) P w K mg base n_law "law" (defScope s_law) f cdv A outer sh H E) rfl
  exact (ss_cons (sown 1 sc_law.nd (l_lst (a_cons (d_tup (a_cons d_str (a_cons (d_tup (a_cons d_str a_nil)) (a_cons (d_tup a_nil) (a_cons (d_tup (a_cons (d_tup (a_cons d_str (a_cons d_str (a_cons d_int a_nil)))) (a_cons (d_tup (a_cons d_str (a_cons d_str (a_cons d_str a_nil)))) (a_cons (d_tup (a_cons d_str (a_cons d_str (a_cons d_str a_nil)))) (a_cons (d_tup (a_cons d_str a_nil)) a_nil))))) a_nil))))) a_nil)))
    (ss_cons (sapp 1 (d_tup (a_cons d_str (a_cons (d_tup a_nil) (a_cons (d_tup a_nil) (a_cons (d_tup (a_cons (d_tup (a_cons d_str a_nil)) (a_cons (d_tup (a_cons d_str (a_cons d_str (a_cons d_str a_nil)))) (a_cons (d_tup (a_cons d_str (a_cons d_str (a_cons d_int a_nil)))) (a_cons (d_tup (a_cons d_str a_nil)) a_nil))))) a_nil))))))
    (ss_cons (s_for hp rfl (i_seq (d_bin o_add (d_lst (a_cons d_int (a_cons d_int (a_cons d_int a_nil)))) (d_slice (dv 0) op_none (op_some d_int)))) (gn 2 sc_law.nd) (b := t1_law) (ss_cons (sset 3 sc_law.nd (d_callF (x := "_law_numbers") F_l_numbers tk (hr.mono (by decide)) (by rfl) (a_cons (dv 2) (a_cons (d_lst (a_cons d_int (a_cons d_int (a_cons d_int (a_cons d_int (a_cons d_int a_nil)))))) a_nil))))
    (ss_cons (s_ixR (dv 3) d_int (d_callB (x := "max") (c_max rfl) (by rfl) T.b_max bt_max (a_cons d_int (a_cons (d_bin o_sub (d_ixR (dv 3) d_int (fun _ _ => rfl)) d_int) a_nil))))
    (ss_cons (sset 4 sc_law.nd (d_callF (x := "_law_place") F_l_place tk (hr.mono (by decide)) (by rfl) (a_cons (dv 3) a_nil)))
    (ss_cons (s_frz 1 (s_if (t_cmp (o_ne hr.units) (d_callF (x := "_law_told") F_l_told tk (hr.mono (by decide)) (by rfl) (a_cons (dv 1) (a_cons (dv 4) a_nil))) (d_ix (d_lst (a_cons d_str (a_cons d_str a_nil))) (d_callT c_int (by rfl) T.b_int bt_int (a_cons (d_callF (x := "_law_good") F_l_good tk (hr.mono (by decide)) (by rfl) (a_cons (dv 4) a_nil)) a_nil)) (fun _ _ => rfl))) (ss_cons (s_ret d_bl)
    ss_nil) ss_nil))
    (ss_cons (s_frz 1 (s_if (PW.pt (w_and (t_cmp (o_eq hr.units) (d_ixR (dv 3) d_int (fun _ _ => rfl)) d_int) (w_and1 (t_cmp (o_ne hr.units) (d_callF (x := "_law_told") F_l_told tk (hr.mono (by decide)) (by rfl) (a_cons (d_bin o_add (dv 1) (dv 1)) (a_cons (dv 4) a_nil))) d_str)))) (ss_cons (s_ret d_bl)
    ss_nil) ss_nil))
    ss_nil))))))
    (ss_cons (s_ret d_bl)
    ss_nil))))
end
set_option maxHeartbeats 0 in
theorem all_mk {l : PySem.W.OpenLaw} {w : World} {K : PySem.W.Frag} {h : Heap} {mg : Str → Option Value} {fa : Addr} {C_CallersError C_NoBook C_NoName C_NoPiece C_NoPlace C_NoRow C_NoRun C_NoText C_Twice C_Lists : Addr} (X : K.In h) (G : h.Ns mainGlobals mg) (hfa : mg "law" = some (.ref fa))
    {f0 : Addr} {od0 an0 : Option Addr} {sl0 : Array (Option Value)} {oc0 kV0 dc0 pm0 cd0 ct0 : Value}
    (a0 : PySem.W.nsIn K mainGlobals "_law_good" = some (some (.ref f0))) (l0 : K.lookup f0 = some ⟨oc0, od0, .func (PySem.W.fnOf "_law_good" "_law_good" (defArgs s_l_good) (defBody s_l_good) (defScope s_l_good) .none kV0 dc0 pm0 an0 cd0 ct0), sl0⟩) (c0 : PySem.W.codeIn K cd0 "_law_good" = true) (k0 : PySem.W.keepIn K (.ref f0) = true)
    {f1 : Addr} {od1 an1 : Option Addr} {sl1 : Array (Option Value)} {oc1 kV1 dc1 pm1 cd1 ct1 : Value}
    (a1 : PySem.W.nsIn K mainGlobals "_law_numbers" = some (some (.ref f1))) (l1 : K.lookup f1 = some ⟨oc1, od1, .func (PySem.W.fnOf "_law_numbers" "_law_numbers" (defArgs s_l_numbers) (defBody s_l_numbers) (defScope s_l_numbers) .none kV1 dc1 pm1 an1 cd1 ct1), sl1⟩) (c1 : PySem.W.codeIn K cd1 "_law_numbers" = true) (k1 : PySem.W.keepIn K (.ref f1) = true)
    {f2 : Addr} {od2 an2 : Option Addr} {sl2 : Array (Option Value)} {oc2 kV2 dc2 pm2 cd2 ct2 : Value}
    (a2 : PySem.W.nsIn K mainGlobals "_law_place" = some (some (.ref f2))) (l2 : K.lookup f2 = some ⟨oc2, od2, .func (PySem.W.fnOf "_law_place" "_law_place" (defArgs s_l_place) (defBody s_l_place) (defScope s_l_place) .none kV2 dc2 pm2 an2 cd2 ct2), sl2⟩) (c2 : PySem.W.codeIn K cd2 "_law_place" = true) (k2 : PySem.W.keepIn K (.ref f2) = true)
    {f3 : Addr} {od3 an3 : Option Addr} {sl3 : Array (Option Value)} {oc3 kV3 dc3 pm3 cd3 ct3 : Value}
    (a3 : PySem.W.nsIn K mainGlobals "is_whole" = some (some (.ref f3))) (l3 : K.lookup f3 = some ⟨oc3, od3, .func (PySem.W.fnOf "is_whole" "is_whole" (defArgs s_is_whole) (defBody s_is_whole) (defScope s_is_whole) .none kV3 dc3 pm3 an3 cd3 ct3), sl3⟩) (c3 : PySem.W.codeIn K cd3 "is_whole" = true) (k3 : PySem.W.keepIn K (.ref f3) = true)
    {f4 : Addr} {od4 an4 : Option Addr} {sl4 : Array (Option Value)} {oc4 kV4 dc4 pm4 cd4 ct4 : Value}
    (a4 : PySem.W.nsIn K mainGlobals "piece_in" = some (some (.ref f4))) (l4 : K.lookup f4 = some ⟨oc4, od4, .func (PySem.W.fnOf "piece_in" "piece_in" (defArgs s_piece_in) (defBody s_piece_in) (defScope s_piece_in) .none kV4 dc4 pm4 an4 cd4 ct4), sl4⟩) (c4 : PySem.W.codeIn K cd4 "piece_in" = true) (k4 : PySem.W.keepIn K (.ref f4) = true)
    {f5 : Addr} {od5 an5 : Option Addr} {sl5 : Array (Option Value)} {oc5 kV5 dc5 pm5 cd5 ct5 : Value}
    (a5 : PySem.W.nsIn K mainGlobals "is_place" = some (some (.ref f5))) (l5 : K.lookup f5 = some ⟨oc5, od5, .func (PySem.W.fnOf "is_place" "is_place" (defArgs s_is_place) (defBody s_is_place) (defScope s_is_place) .none kV5 dc5 pm5 an5 cd5 ct5), sl5⟩) (c5 : PySem.W.codeIn K cd5 "is_place" = true) (k5 : PySem.W.keepIn K (.ref f5) = true)
    {f6 : Addr} {od6 an6 : Option Addr} {sl6 : Array (Option Value)} {oc6 kV6 dc6 pm6 cd6 ct6 : Value}
    (a6 : PySem.W.nsIn K mainGlobals "goes_over" = some (some (.ref f6))) (l6 : K.lookup f6 = some ⟨oc6, od6, .func (PySem.W.fnOf "goes_over" "goes_over" (defArgs s_goes_over) (defBody s_goes_over) (defScope s_goes_over) .none kV6 dc6 pm6 an6 cd6 ct6), sl6⟩) (c6 : PySem.W.codeIn K cd6 "goes_over" = true) (k6 : PySem.W.keepIn K (.ref f6) = true)
    {f7 : Addr} {od7 an7 : Option Addr} {sl7 : Array (Option Value)} {oc7 kV7 dc7 pm7 cd7 ct7 : Value}
    (a7 : PySem.W.nsIn K mainGlobals "is_word" = some (some (.ref f7))) (l7 : K.lookup f7 = some ⟨oc7, od7, .func (PySem.W.fnOf "is_word" "is_word" (defArgs s_is_word) (defBody s_is_word) (defScope s_is_word) .none kV7 dc7 pm7 an7 cd7 ct7), sl7⟩) (c7 : PySem.W.codeIn K cd7 "is_word" = true) (k7 : PySem.W.keepIn K (.ref f7) = true)
    {f8 : Addr} {od8 an8 : Option Addr} {sl8 : Array (Option Value)} {oc8 kV8 dc8 pm8 cd8 ct8 : Value}
    (a8 : PySem.W.nsIn K mainGlobals "are_args" = some (some (.ref f8))) (l8 : K.lookup f8 = some ⟨oc8, od8, .func (PySem.W.fnOf "are_args" "are_args" (defArgs s_are_args) (defBody s_are_args) (defScope s_are_args) .none kV8 dc8 pm8 an8 cd8 ct8), sl8⟩) (c8 : PySem.W.codeIn K cd8 "are_args" = true) (k8 : PySem.W.keepIn K (.ref f8) = true)
    {f9 : Addr} {od9 an9 : Option Addr} {sl9 : Array (Option Value)} {oc9 kV9 dc9 pm9 cd9 ct9 : Value}
    (a9 : PySem.W.nsIn K mainGlobals "are_leaves" = some (some (.ref f9))) (l9 : K.lookup f9 = some ⟨oc9, od9, .func (PySem.W.fnOf "are_leaves" "are_leaves" (defArgs s_are_leaves) (defBody s_are_leaves) (defScope s_are_leaves) .none kV9 dc9 pm9 an9 cd9 ct9), sl9⟩) (c9 : PySem.W.codeIn K cd9 "are_leaves" = true) (k9 : PySem.W.keepIn K (.ref f9) = true)
    {f10 : Addr} {od10 an10 : Option Addr} {sl10 : Array (Option Value)} {oc10 kV10 dc10 pm10 cd10 ct10 : Value}
    (a10 : PySem.W.nsIn K mainGlobals "is_number" = some (some (.ref f10))) (l10 : K.lookup f10 = some ⟨oc10, od10, .func (PySem.W.fnOf "is_number" "is_number" (defArgs s_is_number) (defBody s_is_number) (defScope s_is_number) .none kV10 dc10 pm10 an10 cd10 ct10), sl10⟩) (c10 : PySem.W.codeIn K cd10 "is_number" = true) (k10 : PySem.W.keepIn K (.ref f10) = true)
    {f11 : Addr} {od11 an11 : Option Addr} {sl11 : Array (Option Value)} {oc11 kV11 dc11 pm11 cd11 ct11 : Value}
    (a11 : PySem.W.nsIn K mainGlobals "is_part" = some (some (.ref f11))) (l11 : K.lookup f11 = some ⟨oc11, od11, .func (PySem.W.fnOf "is_part" "is_part" (defArgs s_is_part) (defBody s_is_part) (defScope s_is_part) .none kV11 dc11 pm11 an11 cd11 ct11), sl11⟩) (c11 : PySem.W.codeIn K cd11 "is_part" = true) (k11 : PySem.W.keepIn K (.ref f11) = true)
    {f12 : Addr} {od12 an12 : Option Addr} {sl12 : Array (Option Value)} {oc12 kV12 dc12 pm12 cd12 ct12 : Value}
    (a12 : PySem.W.nsIn K mainGlobals "is_row" = some (some (.ref f12))) (l12 : K.lookup f12 = some ⟨oc12, od12, .func (PySem.W.fnOf "is_row" "is_row" (defArgs s_is_row) (defBody s_is_row) (defScope s_is_row) .none kV12 dc12 pm12 an12 cd12 ct12), sl12⟩) (c12 : PySem.W.codeIn K cd12 "is_row" = true) (k12 : PySem.W.keepIn K (.ref f12) = true)
    {f13 : Addr} {od13 an13 : Option Addr} {sl13 : Array (Option Value)} {oc13 kV13 dc13 pm13 cd13 ct13 : Value}
    (a13 : PySem.W.nsIn K mainGlobals "bad_row" = some (some (.ref f13))) (l13 : K.lookup f13 = some ⟨oc13, od13, .func (PySem.W.fnOf "bad_row" "bad_row" (defArgs s_bad_row) (defBody s_bad_row) (defScope s_bad_row) .none kV13 dc13 pm13 an13 cd13 ct13), sl13⟩) (c13 : PySem.W.codeIn K cd13 "bad_row" = true) (k13 : PySem.W.keepIn K (.ref f13) = true)
    {f14 : Addr} {od14 an14 : Option Addr} {sl14 : Array (Option Value)} {oc14 kV14 dc14 pm14 cd14 ct14 : Value}
    (a14 : PySem.W.nsIn K mainGlobals "is_head" = some (some (.ref f14))) (l14 : K.lookup f14 = some ⟨oc14, od14, .func (PySem.W.fnOf "is_head" "is_head" (defArgs s_is_head) (defBody s_is_head) (defScope s_is_head) .none kV14 dc14 pm14 an14 cd14 ct14), sl14⟩) (c14 : PySem.W.codeIn K cd14 "is_head" = true) (k14 : PySem.W.keepIn K (.ref f14) = true)
    {f15 : Addr} {od15 an15 : Option Addr} {sl15 : Array (Option Value)} {oc15 kV15 dc15 pm15 cd15 ct15 : Value}
    (a15 : PySem.W.nsIn K mainGlobals "leaves_in" = some (some (.ref f15))) (l15 : K.lookup f15 = some ⟨oc15, od15, .func (PySem.W.fnOf "leaves_in" "leaves_in" (defArgs s_leaves_in) (defBody s_leaves_in) (defScope s_leaves_in) .none kV15 dc15 pm15 an15 cd15 ct15), sl15⟩) (c15 : PySem.W.codeIn K cd15 "leaves_in" = true) (k15 : PySem.W.keepIn K (.ref f15) = true)
    {f16 : Addr} {od16 an16 : Option Addr} {sl16 : Array (Option Value)} {oc16 kV16 dc16 pm16 cd16 ct16 : Value}
    (a16 : PySem.W.nsIn K mainGlobals "words_of" = some (some (.ref f16))) (l16 : K.lookup f16 = some ⟨oc16, od16, .func (PySem.W.fnOf "words_of" "words_of" (defArgs s_words_of) (defBody s_words_of) (defScope s_words_of) .none kV16 dc16 pm16 an16 cd16 ct16), sl16⟩) (c16 : PySem.W.codeIn K cd16 "words_of" = true) (k16 : PySem.W.keepIn K (.ref f16) = true)
    {f17 : Addr} {od17 an17 : Option Addr} {sl17 : Array (Option Value)} {oc17 kV17 dc17 pm17 cd17 ct17 : Value}
    (a17 : PySem.W.nsIn K mainGlobals "roster_in" = some (some (.ref f17))) (l17 : K.lookup f17 = some ⟨oc17, od17, .func (PySem.W.fnOf "roster_in" "roster_in" (defArgs s_roster_in) (defBody s_roster_in) (defScope s_roster_in) .none kV17 dc17 pm17 an17 cd17 ct17), sl17⟩) (c17 : PySem.W.codeIn K cd17 "roster_in" = true) (k17 : PySem.W.keepIn K (.ref f17) = true)
    {f18 : Addr} {od18 an18 : Option Addr} {sl18 : Array (Option Value)} {oc18 kV18 dc18 pm18 cd18 ct18 : Value}
    (a18 : PySem.W.nsIn K mainGlobals "look_at_book" = some (some (.ref f18))) (l18 : K.lookup f18 = some ⟨oc18, od18, .func (PySem.W.fnOf "look_at_book" "look_at_book" (defArgs s_look_at_book) (defBody s_look_at_book) (defScope s_look_at_book) .none kV18 dc18 pm18 an18 cd18 ct18), sl18⟩) (c18 : PySem.W.codeIn K cd18 "look_at_book" = true) (k18 : PySem.W.keepIn K (.ref f18) = true)
    {f19 : Addr} {od19 an19 : Option Addr} {sl19 : Array (Option Value)} {oc19 kV19 dc19 pm19 cd19 ct19 : Value}
    (l19 : K.lookup f19 = some ⟨oc19, od19, .func (PySem.W.fnOf "__init__" "Lists.__init__" (defArgs s_Lists____init__) (defBody s_Lists____init__) (defScope s_Lists____init__) .none kV19 dc19 pm19 an19 cd19 ct19), sl19⟩) (c19 : PySem.W.codeIn K cd19 "Lists.__init__" = true) (k19 : PySem.W.keepIn K (.ref f19) = true)
    {f20 : Addr} {od20 an20 : Option Addr} {sl20 : Array (Option Value)} {oc20 kV20 dc20 pm20 cd20 ct20 : Value}
    (l20 : K.lookup f20 = some ⟨oc20, od20, .func (PySem.W.fnOf "standing" "Lists.standing" (defArgs s_Lists__standing) (defBody s_Lists__standing) (defScope s_Lists__standing) .none kV20 dc20 pm20 an20 cd20 ct20), sl20⟩) (c20 : PySem.W.codeIn K cd20 "Lists.standing" = true) (k20 : PySem.W.keepIn K (.ref f20) = true)
    {f21 : Addr} {od21 an21 : Option Addr} {sl21 : Array (Option Value)} {oc21 kV21 dc21 pm21 cd21 ct21 : Value}
    (a21 : PySem.W.nsIn K mainGlobals "verdict_in" = some (some (.ref f21))) (l21 : K.lookup f21 = some ⟨oc21, od21, .func (PySem.W.fnOf "verdict_in" "verdict_in" (defArgs s_verdict_in) (defBody s_verdict_in) (defScope s_verdict_in) .none kV21 dc21 pm21 an21 cd21 ct21), sl21⟩) (c21 : PySem.W.codeIn K cd21 "verdict_in" = true) (k21 : PySem.W.keepIn K (.ref f21) = true)
    {f22 : Addr} {od22 an22 : Option Addr} {sl22 : Array (Option Value)} {oc22 kV22 dc22 pm22 cd22 ct22 : Value}
    (a22 : PySem.W.nsIn K mainGlobals "verdict_at" = some (some (.ref f22))) (l22 : K.lookup f22 = some ⟨oc22, od22, .func (PySem.W.fnOf "verdict_at" "verdict_at" (defArgs s_verdict_at) (defBody s_verdict_at) (defScope s_verdict_at) .none kV22 dc22 pm22 an22 cd22 ct22), sl22⟩) (c22 : PySem.W.codeIn K cd22 "verdict_at" = true) (k22 : PySem.W.keepIn K (.ref f22) = true)
    {f23 : Addr} {od23 an23 : Option Addr} {sl23 : Array (Option Value)} {oc23 kV23 dc23 pm23 cd23 ct23 : Value}
    (a23 : PySem.W.nsIn K mainGlobals "_law_told" = some (some (.ref f23))) (l23 : K.lookup f23 = some ⟨oc23, od23, .func (PySem.W.fnOf "_law_told" "_law_told" (defArgs s_l_told) (defBody s_l_told) (defScope s_l_told) .none kV23 dc23 pm23 an23 cd23 ct23), sl23⟩) (c23 : PySem.W.codeIn K cd23 "_law_told" = true) (k23 : PySem.W.keepIn K (.ref f23) = true)
    {f24 : Addr} {od24 an24 : Option Addr} {sl24 : Array (Option Value)} {oc24 kV24 dc24 pm24 cd24 ct24 : Value}
    (a24 : PySem.W.nsIn K mainGlobals "law" = some (some (.ref f24))) (l24 : K.lookup f24 = some ⟨oc24, od24, .func (PySem.W.fnOf "law" "law" (defArgs s_law) (defBody s_law) (defScope s_law) .none kV24 dc24 pm24 an24 cd24 ct24), sl24⟩) (c24 : PySem.W.codeIn K cd24 "law" = true) (k24 : PySem.W.keepIn K (.ref f24) = true)
    (z_ValueError : PySem.W.nsIn K mainGlobals "ValueError" = some none)
    (z_abs : PySem.W.nsIn K mainGlobals "abs" = some none)
    (z_all : PySem.W.nsIn K mainGlobals "all" = some none)
    (z_any : PySem.W.nsIn K mainGlobals "any" = some none)
    (z_bool : PySem.W.nsIn K mainGlobals "bool" = some none)
    (z_enumerate : PySem.W.nsIn K mainGlobals "enumerate" = some none)
    (z_int : PySem.W.nsIn K mainGlobals "int" = some none)
    (z_isinstance : PySem.W.nsIn K mainGlobals "isinstance" = some none)
    (z_len : PySem.W.nsIn K mainGlobals "len" = some none)
    (z_list : PySem.W.nsIn K mainGlobals "list" = some none)
    (z_max : PySem.W.nsIn K mainGlobals "max" = some none)
    (z_range : PySem.W.nsIn K mainGlobals "range" = some none)
    (z_set : PySem.W.nsIn K mainGlobals "set" = some none)
    (z_sorted : PySem.W.nsIn K mainGlobals "sorted" = some none)
    (z_str : PySem.W.nsIn K mainGlobals "str" = some none)
    (z_tuple : PySem.W.nsIn K mainGlobals "tuple" = some none)
    (z_zip : PySem.W.nsIn K mainGlobals "zip" = some none)
    {t_GREATEST : Tok} (z_GREATEST : PySem.W.nsIn K mainGlobals "GREATEST" = some (some (Value.int 1000000000000000000 t_GREATEST)))
    {t_LETTERS : Tok} (z_LETTERS : PySem.W.nsIn K mainGlobals "LETTERS" = some (some (Value.str (Str.ofString "abcdefghijklmnopqrstuvwxyz") t_LETTERS)))
    {t_LONGEST : Tok} (z_LONGEST : PySem.W.nsIn K mainGlobals "LONGEST" = some (some (Value.int 8 t_LONGEST)))
    {t_MOST : Tok} (z_MOST : PySem.W.nsIn K mainGlobals "MOST" = some (some (Value.int 8 t_MOST)))
    {t_MOST_ARGS : Tok} (z_MOST_ARGS : PySem.W.nsIn K mainGlobals "MOST_ARGS" = some (some (Value.int 4 t_MOST_ARGS)))
    {t_MOST_LEAVES : Tok} (z_MOST_LEAVES : PySem.W.nsIn K mainGlobals "MOST_LEAVES" = some (some (Value.int 8 t_MOST_LEAVES)))
    {t_MOST_PIECES : Tok} (z_MOST_PIECES : PySem.W.nsIn K mainGlobals "MOST_PIECES" = some (some (Value.int 12 t_MOST_PIECES)))
    {t_MOST_ROWS : Tok} (z_MOST_ROWS : PySem.W.nsIn K mainGlobals "MOST_ROWS" = some (some (Value.int 60 t_MOST_ROWS)))
    {d_PARTS : Addr} {e_PARTS : Array DictEntry} {n_PARTS : Nat} (z_PARTS : PySem.W.nsIn K mainGlobals "PARTS" = some (some (.ref d_PARTS))) (q_PARTS : K.lookup d_PARTS = some ⟨.type "dict", none, .dict e_PARTS n_PARTS, #[]⟩) (r_PARTS : PySem.W.KeysLit w.params e_PARTS.toList) (o_PARTS : (d_PARTS == sysModules) = false) (u_PARTS : kEnts K tab_PARTS e_PARTS.toList = true)
    (oa_Lists : PySem.W.nsIn K mainGlobals "Lists" = some (some (.ref C_Lists)))
    (o0_Lists : PySem.W.plainGet K C_Lists Str.empty = true)
    (o1_Lists : PySem.W.hasDictIn K C_Lists = true)
    (o2_Lists : PySem.W.plainOver K C_Lists = true)
    (o3_Lists : PySem.W.findIn K (.ref C_Lists) "__setattr__" = some (some (.builtin "object.__setattr__")))
    (on_Lists_given_tags : PySem.W.findIn K (.ref C_Lists) "given_tags" = some none)
    (on_Lists_holds : PySem.W.findIn K (.ref C_Lists) "holds" = some none)
    (on_Lists_kept_tags : PySem.W.findIn K (.ref C_Lists) "kept_tags" = some none)
    (on_Lists_stands : PySem.W.findIn K (.ref C_Lists) "stands" = some none)
    (om_Lists : PySem.W.makesIn K C_Lists = true)
    (oi_Lists : PySem.W.findIn K (.ref C_Lists) "__init__" = some (some (.ref f19)))
    (okc_Lists : PySem.W.keepIn K (.ref C_Lists) = true)
    (of_Lists_standing : PySem.W.findIn K (.ref C_Lists) "standing" = some (some (.ref f20)))
    (ofn_Lists____init__ : PySem.W.isFn K (.ref f19) = true)
    (ofn_Lists__standing : PySem.W.isFn K (.ref f20) = true)
    (ka_CallersError : PySem.W.nsIn K mainGlobals "CallersError" = some (some (.ref C_CallersError)))
    (kh_CallersError : PySem.W.hasDictIn K C_CallersError = true)
    (kt_CallersError : PySem.W.typeIn K (.ref C_CallersError) = some (.type "type"))
    (kx_CallersError : PySem.W.subIn K (.ref C_CallersError) (.type "BaseException") = some true)
    (ka_NoBook : PySem.W.nsIn K mainGlobals "NoBook" = some (some (.ref C_NoBook)))
    (kh_NoBook : PySem.W.hasDictIn K C_NoBook = true)
    (kt_NoBook : PySem.W.typeIn K (.ref C_NoBook) = some (.type "type"))
    (kx_NoBook : PySem.W.subIn K (.ref C_NoBook) (.type "BaseException") = some true)
    (ka_NoName : PySem.W.nsIn K mainGlobals "NoName" = some (some (.ref C_NoName)))
    (kh_NoName : PySem.W.hasDictIn K C_NoName = true)
    (kt_NoName : PySem.W.typeIn K (.ref C_NoName) = some (.type "type"))
    (kx_NoName : PySem.W.subIn K (.ref C_NoName) (.type "BaseException") = some true)
    (ka_NoPiece : PySem.W.nsIn K mainGlobals "NoPiece" = some (some (.ref C_NoPiece)))
    (kh_NoPiece : PySem.W.hasDictIn K C_NoPiece = true)
    (kt_NoPiece : PySem.W.typeIn K (.ref C_NoPiece) = some (.type "type"))
    (kx_NoPiece : PySem.W.subIn K (.ref C_NoPiece) (.type "BaseException") = some true)
    (ka_NoPlace : PySem.W.nsIn K mainGlobals "NoPlace" = some (some (.ref C_NoPlace)))
    (kh_NoPlace : PySem.W.hasDictIn K C_NoPlace = true)
    (kt_NoPlace : PySem.W.typeIn K (.ref C_NoPlace) = some (.type "type"))
    (kx_NoPlace : PySem.W.subIn K (.ref C_NoPlace) (.type "BaseException") = some true)
    (ka_NoRow : PySem.W.nsIn K mainGlobals "NoRow" = some (some (.ref C_NoRow)))
    (kh_NoRow : PySem.W.hasDictIn K C_NoRow = true)
    (kt_NoRow : PySem.W.typeIn K (.ref C_NoRow) = some (.type "type"))
    (kx_NoRow : PySem.W.subIn K (.ref C_NoRow) (.type "BaseException") = some true)
    (ka_NoRun : PySem.W.nsIn K mainGlobals "NoRun" = some (some (.ref C_NoRun)))
    (kh_NoRun : PySem.W.hasDictIn K C_NoRun = true)
    (kt_NoRun : PySem.W.typeIn K (.ref C_NoRun) = some (.type "type"))
    (kx_NoRun : PySem.W.subIn K (.ref C_NoRun) (.type "BaseException") = some true)
    (ka_NoText : PySem.W.nsIn K mainGlobals "NoText" = some (some (.ref C_NoText)))
    (kh_NoText : PySem.W.hasDictIn K C_NoText = true)
    (kt_NoText : PySem.W.typeIn K (.ref C_NoText) = some (.type "type"))
    (kx_NoText : PySem.W.subIn K (.ref C_NoText) (.type "BaseException") = some true)
    (ka_Twice : PySem.W.nsIn K mainGlobals "Twice" = some (some (.ref C_Twice)))
    (kh_Twice : PySem.W.hasDictIn K C_Twice = true)
    (kt_Twice : PySem.W.typeIn K (.ref C_Twice) = some (.type "type"))
    (kx_Twice : PySem.W.subIn K (.ref C_Twice) (.type "BaseException") = some true)
    (x0_NoBook : PySem.W.findIn K (.ref C_NoBook) "__getattribute__" = some (some (.builtin "BaseException.__getattribute__")))
    (x1_NoBook : PySem.W.findIn K (.ref C_NoBook) "__getattr__" = some none)
    (x2_NoBook : PySem.W.subIn K (.ref C_NoBook) (.type "BaseException") = some true)
    (x3_NoBook : PySem.W.hasDictIn K C_NoBook = true)
    (x4_NoBook : PySem.W.findIn K (.ref C_NoBook) "__class__" = some (some (.builtin "object.__class__")))
    (x5_NoBook : PySem.W.specialIn K (.builtin "object.__class__") "__get__" = some (some (.builtin "getset_descriptor.__get__")))
    (x6_NoBook : PySem.W.takesIn K (.builtin "object.__class__") = some true)
    (x7_NoBook : PySem.W.mroIn K C_NoBook (.type "object") = some true)
    (x0_NoPlace : PySem.W.findIn K (.ref C_NoPlace) "__getattribute__" = some (some (.builtin "BaseException.__getattribute__")))
    (x1_NoPlace : PySem.W.findIn K (.ref C_NoPlace) "__getattr__" = some none)
    (x2_NoPlace : PySem.W.subIn K (.ref C_NoPlace) (.type "BaseException") = some true)
    (x3_NoPlace : PySem.W.hasDictIn K C_NoPlace = true)
    (x4_NoPlace : PySem.W.findIn K (.ref C_NoPlace) "__class__" = some (some (.builtin "object.__class__")))
    (x5_NoPlace : PySem.W.specialIn K (.builtin "object.__class__") "__get__" = some (some (.builtin "getset_descriptor.__get__")))
    (x6_NoPlace : PySem.W.takesIn K (.builtin "object.__class__") = some true)
    (x7_NoPlace : PySem.W.mroIn K C_NoPlace (.type "object") = some true)
    (g_NoBook_piece : PySem.W.findIn K (.ref C_NoBook) "piece" = some none)
    (g_NoBook_row : PySem.W.findIn K (.ref C_NoBook) "row" = some none)
    (s_NoBook_CallersError : PySem.W.subIn K (.ref C_NoBook) (.ref C_CallersError) = some true)
    (n_NoBook_CallersError : (C_NoBook == C_CallersError) = false)
    (s_NoBook_NoName : PySem.W.subIn K (.ref C_NoBook) (.ref C_NoName) = some false)
    (n_NoBook_NoName : (C_NoBook == C_NoName) = false)
    (s_NoBook_NoPiece : PySem.W.subIn K (.ref C_NoBook) (.ref C_NoPiece) = some false)
    (n_NoBook_NoPiece : (C_NoBook == C_NoPiece) = false)
    (s_NoBook_NoPlace : PySem.W.subIn K (.ref C_NoBook) (.ref C_NoPlace) = some false)
    (n_NoBook_NoPlace : (C_NoBook == C_NoPlace) = false)
    (s_NoBook_NoRow : PySem.W.subIn K (.ref C_NoBook) (.ref C_NoRow) = some false)
    (n_NoBook_NoRow : (C_NoBook == C_NoRow) = false)
    (s_NoBook_NoRun : PySem.W.subIn K (.ref C_NoBook) (.ref C_NoRun) = some false)
    (n_NoBook_NoRun : (C_NoBook == C_NoRun) = false)
    (s_NoBook_NoText : PySem.W.subIn K (.ref C_NoBook) (.ref C_NoText) = some false)
    (n_NoBook_NoText : (C_NoBook == C_NoText) = false)
    (s_NoBook_Twice : PySem.W.subIn K (.ref C_NoBook) (.ref C_Twice) = some false)
    (n_NoBook_Twice : (C_NoBook == C_Twice) = false)
    (s_NoPlace_CallersError : PySem.W.subIn K (.ref C_NoPlace) (.ref C_CallersError) = some true)
    (n_NoPlace_CallersError : (C_NoPlace == C_CallersError) = false)
    (s_NoPlace_NoBook : PySem.W.subIn K (.ref C_NoPlace) (.ref C_NoBook) = some false)
    (n_NoPlace_NoBook : (C_NoPlace == C_NoBook) = false)
    (s_NoPlace_NoName : PySem.W.subIn K (.ref C_NoPlace) (.ref C_NoName) = some false)
    (n_NoPlace_NoName : (C_NoPlace == C_NoName) = false)
    (s_NoPlace_NoPiece : PySem.W.subIn K (.ref C_NoPlace) (.ref C_NoPiece) = some false)
    (n_NoPlace_NoPiece : (C_NoPlace == C_NoPiece) = false)
    (s_NoPlace_NoRow : PySem.W.subIn K (.ref C_NoPlace) (.ref C_NoRow) = some false)
    (n_NoPlace_NoRow : (C_NoPlace == C_NoRow) = false)
    (s_NoPlace_NoRun : PySem.W.subIn K (.ref C_NoPlace) (.ref C_NoRun) = some false)
    (n_NoPlace_NoRun : (C_NoPlace == C_NoRun) = false)
    (s_NoPlace_NoText : PySem.W.subIn K (.ref C_NoPlace) (.ref C_NoText) = some false)
    (n_NoPlace_NoText : (C_NoPlace == C_NoText) = false)
    (s_NoPlace_Twice : PySem.W.subIn K (.ref C_NoPlace) (.ref C_Twice) = some false)
    (n_NoPlace_Twice : (C_NoPlace == C_Twice) = false)
    (s_NoBook_ValueError : PySem.W.subIn K (.ref C_NoBook) (.type "ValueError") = some true)
    (s_NoPlace_ValueError : PySem.W.subIn K (.ref C_NoPlace) (.type "ValueError") = some true)
    {nm_NoBook qn_NoBook : Str} {N_NoBook : Addr} {bs_NoBook bm_NoBook : List Value} {sn_NoBook : List Str} {sub_NoBook : List Value} {ab_NoBook : Bool} {col_NoBook : Option Bool} {dd_NoBook : Option Addr} {k0_NoBook k1_NoBook k2_NoBook k3_NoBook k5_NoBook : Option Value} (lc_NoBook : K.lookup C_NoBook = some (PySem.excClassObj nm_NoBook qn_NoBook C_NoBook N_NoBook bs_NoBook bm_NoBook true sn_NoBook sub_NoBook ab_NoBook col_NoBook dd_NoBook k0_NoBook k1_NoBook k2_NoBook k3_NoBook k5_NoBook "ValueError.__new__"))
    (rc_NoBook : PySem.HandSPX.refsVE bm_NoBook = true)
    (sa_NoBook : PySem.W.findIn K (.ref C_NoBook) "__setattr__" = some (some (.builtin "object.__setattr__")))
    (kc_NoBook : PySem.W.keepIn K (.ref C_NoBook) = true)
    {fI_NoBook : Addr} (ai_NoBook : PySem.W.findIn K (.ref C_NoBook) "__init__" = some (some (.ref fI_NoBook)))
    (ti_NoBook : PySem.W.typeIn K (.ref fI_NoBook) = some (.type "function"))
    {odi_NoBook ani_NoBook : Option Addr} {sli_NoBook : Array (Option Value)} {oci_NoBook kVi_NoBook dci_NoBook pmi_NoBook cdi_NoBook cti_NoBook : Value} (li_NoBook : K.lookup fI_NoBook = some ⟨oci_NoBook, odi_NoBook, .func (PySem.W.fnOf "__init__" "NoBook.__init__" (defArgs si_NoBook) (defBody si_NoBook) (defScope si_NoBook) .none kVi_NoBook dci_NoBook pmi_NoBook ani_NoBook cdi_NoBook cti_NoBook), sli_NoBook⟩)
    (ci_NoBook : PySem.W.codeIn K cdi_NoBook "NoBook.__init__" = true)
    (ki_NoBook : PySem.W.keepIn K (.ref fI_NoBook) = true)
    (q_NoPlace : PySem.W.excIn K C_NoPlace [.type "ValueError", .type "Exception", .type "BaseException", .type "object"] "ValueError.__new__" = true)
    (kc_NoPlace : PySem.W.keepIn K (.ref C_NoPlace) = true)
    (b1_CallersError : PySem.W.specialIn K (.ref C_CallersError) "__getattribute__" = some (some (.builtin "type.__getattribute__")))
    (b3_CallersError : PySem.W.readsIn K C_CallersError (.type "type") = true)
    (bv_CallersError : PySem.W.findCls K (.ref C_CallersError) (.type "type") "__init__" = some (.val (.builtin "ValueError.__init__")))
    : ∃ fd : FuncData, (∀ (s : Shared) (v : Value), BindsTo s fd ⟨[v], []⟩ [("_law_script", v)]) ∧ ∀ base : Heap, K.In base → base.Ns mainGlobals mg → FnOk l.prog w K mg base (L2.CX l.prog w) 9 fa fd [Str.ofString "_law_script"] (spD K (XSd K) 1 f_law) := by
  have T : Tx K w mg C_CallersError C_NoBook C_NoName C_NoPiece C_NoPlace C_NoRow C_NoRun C_NoText C_Twice C_Lists := ⟨clsAt_of oa_Lists, ⟨o0_Lists, o1_Lists, o2_Lists, o3_Lists⟩, on_Lists_given_tags, on_Lists_holds, on_Lists_kept_tags, on_Lists_stands, clsF_mk X G ka_CallersError kh_CallersError kt_CallersError kx_CallersError, clsF_mk X G ka_NoBook kh_NoBook kt_NoBook kx_NoBook, clsF_mk X G ka_NoName kh_NoName kt_NoName kx_NoName, clsF_mk X G ka_NoPiece kh_NoPiece kt_NoPiece kx_NoPiece, clsF_mk X G ka_NoPlace kh_NoPlace kt_NoPlace kx_NoPlace, clsF_mk X G ka_NoRow kh_NoRow kt_NoRow kx_NoRow, clsF_mk X G ka_NoRun kh_NoRun kt_NoRun kx_NoRun, clsF_mk X G ka_NoText kh_NoText kt_NoText kx_NoText, clsF_mk X G ka_Twice kh_Twice kt_Twice kx_Twice, ⟨x0_NoBook, x1_NoBook, x2_NoBook, x3_NoBook, x4_NoBook, x5_NoBook, x6_NoBook, x7_NoBook⟩, ⟨x0_NoPlace, x1_NoPlace, x2_NoPlace, x3_NoPlace, x4_NoPlace, x5_NoPlace, x6_NoPlace, x7_NoPlace⟩, q_NoPlace, kc_NoPlace, g_NoBook_piece, g_NoBook_row, s_NoBook_CallersError, n_NoBook_CallersError, s_NoBook_NoName, n_NoBook_NoName, s_NoBook_NoPiece, n_NoBook_NoPiece, s_NoBook_NoPlace, n_NoBook_NoPlace, s_NoBook_NoRow, n_NoBook_NoRow, s_NoBook_NoRun, n_NoBook_NoRun, s_NoBook_NoText, n_NoBook_NoText, s_NoBook_Twice, n_NoBook_Twice, s_NoPlace_CallersError, n_NoPlace_CallersError, s_NoPlace_NoBook, n_NoPlace_NoBook, s_NoPlace_NoName, n_NoPlace_NoName, s_NoPlace_NoPiece, n_NoPlace_NoPiece, s_NoPlace_NoRow, n_NoPlace_NoRow, s_NoPlace_NoRun, n_NoPlace_NoRun, s_NoPlace_NoText, n_NoPlace_NoText, s_NoPlace_Twice, n_NoPlace_Twice, s_NoBook_ValueError, s_NoPlace_ValueError, PySem.W.mg_none_of X G z_ValueError, PySem.W.mg_none_of X G z_abs, PySem.W.mg_none_of X G z_all, PySem.W.mg_none_of X G z_any, PySem.W.mg_none_of X G z_bool, PySem.W.mg_none_of X G z_enumerate, PySem.W.mg_none_of X G z_int, PySem.W.mg_none_of X G z_isinstance, PySem.W.mg_none_of X G z_len, PySem.W.mg_none_of X G z_list, PySem.W.mg_none_of X G z_max, PySem.W.mg_none_of X G z_range, PySem.W.mg_none_of X G z_set, PySem.W.mg_none_of X G z_sorted, PySem.W.mg_none_of X G z_str, PySem.W.mg_none_of X G z_tuple, PySem.W.mg_none_of X G z_zip, ⟨_, PySem.W.mg_of X G z_GREATEST⟩, ⟨_, PySem.W.mg_of X G z_LETTERS⟩, ⟨_, PySem.W.mg_of X G z_LONGEST⟩, ⟨_, PySem.W.mg_of X G z_MOST⟩, ⟨_, PySem.W.mg_of X G z_MOST_ARGS⟩, ⟨_, PySem.W.mg_of X G z_MOST_LEAVES⟩, ⟨_, PySem.W.mg_of X G z_MOST_PIECES⟩, ⟨_, PySem.W.mg_of X G z_MOST_ROWS⟩, ⟨_, _, _, PySem.W.mg_of X G z_PARTS, ⟨q_PARTS, r_PARTS, o_PARTS⟩, u_PARTS⟩⟩
  have e := hfa.symm.trans (PySem.W.mg_of X G a24)
  cases e
  have FL := fun_mk (st := s_law) l24 c24 k24
  refine ⟨PySem.W.fnOf "law" "law" (defArgs s_law) (defBody s_law) (defScope s_law) .none kV24 dc24 pm24 an24 cd24 ct24, fun s v => .of_eq rfl, fun base _ _ => ?_⟩
  have O_NoBook : OexC K C_NoBook := oexC_mk lc_NoBook rc_NoBook sa_NoBook kx_NoBook kt_NoBook kc_NoBook
  have X_NoBook : ExFn l.prog w K mg base "NoBook" 1 [Str.ofString "piece", Str.ofString "row"] := exfn_mk (s := si_NoBook) T.k_NoBook O_NoBook ai_NoBook ti_NoBook li_NoBook ci_NoBook ki_NoBook (fun us hl => match us, hl with | [_, _, _], _ => rfl) (fun f fd F => oki_NoBook T O_NoBook ⟨b1_CallersError, b3_CallersError, bv_CallersError⟩ F)
  have F_l_good : Fn l.prog w K mg base (XSd K) "_law_good" 1 1 f_l_good := fn_mk X G a0 l0 c0 k0 sc_l_good (fun us hl => match us, hl with | [_], _ => rfl) rfl rfl (fun f fd F => ok_l_good T  F)
  have F_l_numbers : Fn l.prog w K mg base (XSd K) "_law_numbers" 1 2 f_l_numbers := fn_mk X G a1 l1 c1 k1 sc_l_numbers (fun us hl => match us, hl with | [_, _], _ => rfl) rfl rfl (fun f fd F => ok_l_numbers T  F)
  have F_l_place : Fn l.prog w K mg base (XSd K) "_law_place" 1 1 f_l_place := fn_mk X G a2 l2 c2 k2 sc_l_place (fun us hl => match us, hl with | [_], _ => rfl) rfl rfl (fun f fd F => ok_l_place T  F)
  have F_is_whole : Fn l.prog w K mg base (XSd K) "is_whole" 1 1 f_is_whole := fn_mk X G a3 l3 c3 k3 sc_is_whole (fun us hl => match us, hl with | [_], _ => rfl) rfl rfl (fun f fd F => ok_is_whole T  F)
  have F_piece_in : Fn l.prog w K mg base (XSd K) "piece_in" 1 2 f_piece_in := fn_mk X G a4 l4 c4 k4 sc_piece_in (fun us hl => match us, hl with | [_, _], _ => rfl) rfl rfl (fun f fd F => ok_piece_in T  F)
  have F_is_place : Fn l.prog w K mg base (XSd K) "is_place" 2 2 f_is_place := fn_mk X G a5 l5 c5 k5 sc_is_place (fun us hl => match us, hl with | [_, _], _ => rfl) rfl rfl (fun f fd F => ok_is_place T F_is_whole F_piece_in F)
  have F_goes_over : Fn l.prog w K mg base (XSd K) "goes_over" 1 1 f_goes_over := fn_mk X G a6 l6 c6 k6 sc_goes_over (fun us hl => match us, hl with | [_], _ => rfl) rfl rfl (fun f fd F => ok_goes_over T  F)
  have F_is_word : Fn l.prog w K mg base (XSd K) "is_word" 1 1 f_is_word := fn_mk X G a7 l7 c7 k7 sc_is_word (fun us hl => match us, hl with | [_], _ => rfl) rfl rfl (fun f fd F => ok_is_word T  F)
  have F_are_args : Fn l.prog w K mg base (XSd K) "are_args" 2 1 f_are_args := fn_mk X G a8 l8 c8 k8 sc_are_args (fun us hl => match us, hl with | [_], _ => rfl) rfl rfl (fun f fd F => ok_are_args T F_is_word F)
  have F_are_leaves : Fn l.prog w K mg base (XSd K) "are_leaves" 2 1 f_are_leaves := fn_mk X G a9 l9 c9 k9 sc_are_leaves (fun us hl => match us, hl with | [_], _ => rfl) rfl rfl (fun f fd F => ok_are_leaves T F_is_word F)
  have F_is_number : Fn l.prog w K mg base (XSd K) "is_number" 2 1 f_is_number := fn_mk X G a10 l10 c10 k10 sc_is_number (fun us hl => match us, hl with | [_], _ => rfl) rfl rfl (fun f fd F => ok_is_number T F_is_whole F)
  have F_is_part : Fn l.prog w K mg base (XSd K) "is_part" 3 2 f_is_part := fn_mk X G a11 l11 c11 k11 sc_is_part (fun us hl => match us, hl with | [_, _], _ => rfl) rfl rfl (fun f fd F => ok_is_part T F_are_args F_are_leaves F_is_number F_is_whole F_is_word F)
  have F_is_row : Fn l.prog w K mg base (XSd K) "is_row" 4 1 f_is_row := fn_mk X G a12 l12 c12 k12 sc_is_row (fun us hl => match us, hl with | [_], _ => rfl) rfl rfl (fun f fd F => ok_is_row T F_is_part F)
  have F_bad_row : Fn l.prog w K mg base (XSd K) "bad_row" 5 1 f_bad_row := fn_mk X G a13 l13 c13 k13 sc_bad_row (fun us hl => match us, hl with | [_], _ => rfl) rfl rfl (fun f fd F => ok_bad_row T F_goes_over F_is_row F)
  have F_is_head : Fn l.prog w K mg base (XSd K) "is_head" 3 1 f_is_head := fn_mk X G a14 l14 c14 k14 sc_is_head (fun us hl => match us, hl with | [_], _ => rfl) rfl rfl (fun f fd F => ok_is_head T F_are_args F_are_leaves F_is_word F)
  have F_leaves_in : Fn l.prog w K mg base (XSd K) "leaves_in" 1 1 f_leaves_in := fn_mk X G a15 l15 c15 k15 sc_leaves_in (fun us hl => match us, hl with | [_], _ => rfl) rfl rfl (fun f fd F => ok_leaves_in T  F)
  have F_words_of : Fn l.prog w K mg base (XSd K) "words_of" 2 1 f_words_of := fn_mk X G a16 l16 c16 k16 sc_words_of (fun us hl => match us, hl with | [_], _ => rfl) rfl rfl (fun f fd F => ok_words_of T F_leaves_in F)
  have F_roster_in : Fn l.prog w K mg base (XSd K) "roster_in" 3 1 f_roster_in := fn_mk X G a17 l17 c17 k17 sc_roster_in (fun us hl => match us, hl with | [_], _ => rfl) rfl rfl (fun f fd F => ok_roster_in T F_words_of F)
  have F_look_at_book : Fn l.prog w K mg base (XSd K) "look_at_book" 6 1 f_look_at_book := fn_mk X G a18 l18 c18 k18 sc_look_at_book (fun us hl => match us, hl with | [_], _ => rfl) rfl rfl (fun f fd F => ok_look_at_book T F_bad_row F_is_head F_roster_in X_NoBook F)
  have K_Lists : MkF l.prog w K mg base (XSd K) "Lists" 1 2 f_Lists____init__ := mkf_mk X G oa_Lists om_Lists oi_Lists ofn_Lists____init__ okc_Lists l19 c19 k19 sc_Lists____init__ (fun us hl => match us, hl with | [_, _], _ => rfl) rfl rfl (fun f fd F => ok_Lists____init__ T  F)
  have M_Lists_standing : Mt l.prog w K mg base (XSd K) "Lists" "standing" 1 3 f_Lists__standing := mt_mk oa_Lists ⟨o0_Lists, o1_Lists, o2_Lists, o3_Lists⟩ of_Lists_standing ofn_Lists__standing l20 c20 k20 sc_Lists__standing (fun us hl => match us, hl with | [_, _, _], _ => rfl) rfl rfl (fun f fd F => ok_Lists__standing T  F)
  have F_verdict_in : Fn l.prog w K mg base (XSd K) "verdict_in" 3 3 f_verdict_in := fn_mk X G a21 l21 c21 k21 sc_verdict_in (fun us hl => match us, hl with | [_, _, _], _ => rfl) rfl rfl (fun f fd F => ok_verdict_in T M_Lists_standing K_Lists F)
  have F_verdict_at : Fn l.prog w K mg base (XSd K) "verdict_at" 7 3 f_verdict_at := fn_mk X G a22 l22 c22 k22 sc_verdict_at (fun us hl => match us, hl with | [_, _, _], _ => rfl) rfl rfl (fun f fd F => ok_verdict_at T F_is_place F_look_at_book F_piece_in F_verdict_in F)
  have F_l_told : Fn l.prog w K mg base (XSd K) "_law_told" 8 2 f_l_told := fn_mk X G a23 l23 c23 k23 sc_l_told (fun us hl => match us, hl with | [_, _], _ => rfl) rfl rfl (fun f fd F => ok_l_told T F_verdict_at F)
  exact ok_law T F_l_good F_l_numbers F_l_place F_l_told FL
end T_allcallers_k54_no_place
namespace T_allcallers_k54_no_place
open PySem L2 D C
abbrev sO : Str := Str.ofString "one"
abbrev sT : Str := Str.ofString "two"
abbrev sW : Str := Str.ofString "w"
abbrev sX : Str := Str.ofString "x"
def P1 : Piece := ⟨sO, [sW], [], [.ask sW 1, .done sW sX, .deed sX sX, .on]⟩
def P2 : Piece := ⟨sT, [], [], [.on, .deed sW sX, .skip sX 1, .count]⟩
def B : List Piece := [P1, P2]
theorem goes_all {l : List Row} (h : (List.range l.length).all (fun k => decide ((k : Int) + 1 + (l.getD k .on).goes ≤ l.length)) = true) : ∀ k (h : k < l.length), (k : Int) + 1 + (l[k]).goes ≤ l.length := fun k hk => by
  rw [List.all_eq_true] at h
  have := of_decide_eq_true (h k (List.mem_range.mpr hk))
  rw [List.getD_eq_getElem?_getD, List.getElem?_eq_getElem hk] at this
  exact this
theorem P1_ok : P1.ok = true := (pok_iff _).mpr ⟨by decide +kernel, by decide +kernel, by decide +kernel, by decide +kernel, by decide +kernel, by decide +kernel, by decide +kernel, goes_all (by decide +kernel)⟩
theorem P2_ok : P2.ok = true := (pok_iff _).mpr ⟨by decide +kernel, by decide +kernel, by decide +kernel, by decide +kernel, by decide +kernel, by decide +kernel, by decide +kernel, goes_all (by decide +kernel)⟩
theorem B_good : goodB B := ⟨by decide, by decide, fun p hp => by
  have : p = P1 ∨ p = P2 := by simpa [B] using hp
  rcases this with rfl | rfl
  · exact P1_ok
  · exact P2_ok, by decide +kernel, by decide +kernel⟩
theorem B_few : (wordsB B).length < 4000 := by decide +kernel
abbrev nb : Str := Str.ofString "NoBook"
abbrev fP : Str := Str.ofString "piece"
abbrev fR : Str := Str.ofString "row"
def refuse (st : Store) (us : List U) : Rs U := if us.length = 2 ∧ us.all flatU = true then .ex nb ([fP, fR].zip us).reverse st else .bad
theorem refuses (st : Store) : Refuses (fun a => sRaise nb [fP, fR] a) (refuse st) st := ⟨fun a env us h => by
  refine ⟨_, rfl, ?_, ?_⟩
  · rw [sRaise_ap, h]
    show Stop (if us.length = 2 ∧ us.all flatU = true then _ else _)
    split <;> trivial
  · rw [sRaise_ap, h]
    show fin (if us.length = 2 ∧ us.all flatU = true then _ else _) = refuse st us
    unfold refuse
    split <;> rfl⟩
theorem look_eq : f_look_at_book = C.f_look_at_book (fun a => sRaise nb [fP, fR] a) := rfl
theorem look_B (st : Store) : f_look_at_book [.lst [P1.u, P2.u]] st = .ok .non st := by
  rw [look_eq]
  exact look_good (refuses st) B B_good B_few
theorem look_shape {us why : List U} (h : lookU us = some why) : ∃ a b, why = [a, b] ∧ flatU a = true ∧ flatU b = true := by
  unfold lookU at h
  split at h
  · cases h; exact ⟨_, _, rfl, rfl, rfl⟩
  · split at h
    · cases h
      refine ⟨_, _, rfl, rfl, ?_⟩
      split
      · cases badAt (rowsL (us.getD _ U.non)) <;> rfl
      · rfl
    · split at h
      · split at h
        · cases h; exact ⟨_, _, rfl, rfl, rfl⟩
        · cases h
      · cases h
theorem look_BB (st : Store) : ∃ fs, f_look_at_book [.lst [P1.u, P2.u, P1.u, P2.u]] st = .ex nb fs st := by
  have e := look_list (refuses st) ([P1, P2, P1, P2].map Piece.u) (by
    rw [List.all_eq_true]
    intro u hu
    obtain ⟨p, hp, rfl⟩ := List.mem_map.mp hu
    refine piece_tame p ?_
    have : p = P1 ∨ p = P2 ∨ p = P1 ∨ p = P2 := by simpa using hp
    rcases this with rfl | rfl | rfl | rfl
    · exact P1_ok
    · exact P2_ok
    · exact P1_ok
    · exact P2_ok) (fun b h => by rw [← bookU_inj h]; decide +kernel)
  rw [← look_eq] at e
  cases q : lookU ([P1, P2, P1, P2].map Piece.u) with
  | none =>
    exfalso
    unfold lookU at q
    rw [if_neg (by decide)] at q
    cases f : (List.range ([P1, P2, P1, P2].map Piece.u).length).find? (fun k => !pieceOk ([P1, P2, P1, P2].map Piece.u) k) with
    | some k => rw [f] at q; cases q
    | none =>
      rw [List.find?_eq_none] at f
      have h2 := f 2 (List.mem_range.mpr (by decide))
      have h2 : pieceOk ([P1, P2, P1, P2].map Piece.u) 2 = true := by simpa using h2
      unfold pieceOk at h2
      simp only [Bool.and_eq_true] at h2
      have : fresh ([P1, P2, P1, P2].map Piece.u) 2 = false := by decide +kernel
      rw [this] at h2
      exact absurd h2.1.2 Bool.false_ne_true
  | some why =>
    rw [q] at e
    obtain ⟨a, b, rfl, ha, hb⟩ := look_shape q
    have hr : refuse st [a, b] = .ex nb [(fR, b), (fP, a)] st := by
      unfold refuse
      rw [if_pos ⟨rfl, by simp [ha, hb]⟩]
      rfl
    exact ⟨_, e.trans hr⟩
theorem ix_P (p : Piece) : ix2 p.u (.int 0) = some (.str p.name) ∧ ix2 p.u (.int 3) = some (.tup (p.rows.map Row.u)) := ⟨rfl, rfl⟩
theorem piece_in_ev (n : Str) (st : Store) : f_piece_in [.lst [P1.u, P2.u], .str n] st = .ok (if sO = n then P1.u else if sT = n then P2.u else .non) st := by
  have i1 : ix2 P1.u (.int 0) = some (.str sO) := rfl
  have i2 : ix2 P2.u (.int 0) = some (.str sT) := rfl
  unfold f_piece_in b_piece_in t1_piece_in
  generalize P1.u = U1 at *
  generalize P2.u = U2 at *
  by_cases h1 : sO = n
  · rw [if_pos h1]
    simp [for_cons, i1, h1]
  · rw [if_neg h1]
    by_cases h2 : sT = n
    · rw [if_pos h2]
      simp [for_cons, i1, i2, h1, h2]
    · rw [if_neg h2]
      simp [for_cons, for_nil, i1, i2, h1, h2]
/-- the piece of a name -/
def pOf (n : Str) : Option Piece := if sO = n then some P1 else if sT = n then some P2 else none
theorem piece_in_ev' (n : Str) (st : Store) : f_piece_in [.lst [P1.u, P2.u], .str n] st = .ok (match pOf n with | some p => p.u | none => .non) st := by
  rw [piece_in_ev]
  unfold pOf
  split
  · rfl
  · split <;> rfl
def wholeU : U → Option Int
  | .int i => some i
  | _ => none
def isPl (n : Str) (a : U) : Bool := match pOf n, wholeU a with
  | some _, some i => decide (0 ≤ i ∧ i < 4)
  | _, _ => false
theorem rows4 {n : Str} {p : Piece} (h : pOf n = some p) : p.rows.length = 4 := by
  unfold pOf at h
  split at h
  · cases h; rfl
  · split at h
    · cases h; rfl
    · cases h
/-- what may stand at the second place -/
inductive At2 : U → Prop
  | int (i : Int) : At2 (.int i)
  | bl (b : Bool) : At2 (.bl b)
  | str (x : Str) : At2 (.str x)
  | non : At2 .non
  | tup : At2 (.tup [.int 0])
theorem is_place_ev (n : Str) (a : U) (ha : At2 a) (st : Store) : f_is_place [.lst [P1.u, P2.u], .tup [.str n, a]] st = .ok (.bl (isPl n a)) st := by
  have e := piece_in_ev' n st
  unfold f_is_place b_is_place f_is_whole b_is_whole isPl
  generalize hBU : U.lst [P1.u, P2.u] = BU at *
  cases hp : pOf n with
  | none =>
    rw [hp] at e
    simp [e]
  | some p =>
    rw [hp] at e
    have l4 := rows4 hp
    obtain ⟨_, i3⟩ := ix_P p
    have ln : lenN [.tup (p.rows.map Row.u)] = some (.int 4) := by simp [l4]
    have nn : isnot2 p.u .non = some (.bl true) := rfl
    simp only at e
    generalize U.tup (p.rows.map Row.u) = PR at *
    generalize p.u = PU at *
    cases ha with
    | int i =>
      by_cases c1 : 0 ≤ i
      · by_cases c2 : i < 4
        · simp [e, i3, ln, nn, wholeU, c1, c2]
        · simp [e, i3, ln, nn, wholeU, c1, c2]
      · simp [e, i3, ln, nn, wholeU, c1]
    | bl b => simp [e, i3, ln, nn, wholeU]
    | str x => simp [e, i3, ln, nn, wholeU]
    | non => simp [e, i3, ln, nn, wholeU]
    | tup => simp [e, i3, ln, nn, wholeU]
end T_allcallers_k54_no_place
namespace T_allcallers_k54_no_place
open PySem L2 D C
abbrev sL : Str := Str.ofString "Lists"
def VV : List U := [.lst [.tup [], .tup [.str sW]], .lst [.tup [.str sW]]]
def KK : List (List Key) := [[.inr sO, .inl 0], [.inr sT, .inl 1]]
def D1 : U := .dct [.tup [.str sO, .int 0], .tup [.str sT, .int 1]] VV
def D0 : U := .dct [] []
def TAB : U := .tup [D1, D0, D0, D0]
theorem any_bls (bs : List Bool) : anyN [.lst (bs.map U.bl)] = some (.bl (bs.any id)) := by
  simp [anyN, bools_map]
theorem disp1 : dispTU [([.str sO, .int 0], .lst [.tup [], .tup [.str sW]]), ([.str sT, .int 1], .lst [.tup [.str sW]])] = some D1 := by
  have : ([(([.inr sO, .inl 0] : List Key), (U.lst [.tup [], .tup [.str sW]])), ([.inr sT, .inl 1], .lst [.tup [.str sW]])].map (·.1)).Nodup := by decide +kernel
  have k : keyedT [([.str sO, .int 0], .lst [.tup [], .tup [.str sW]]), ([.str sT, .int 1], .lst [.tup [.str sW]])] = some [(([.inr sO, .inl 0] : List Key), (U.lst [.tup [], .tup [.str sW]])), ([.inr sT, .inl 1], .lst [.tup [.str sW]])] := rfl
  unfold dispTU
  rw [k, Option.bind_some, if_pos ⟨by decide, this⟩]
  rfl
theorem dT1 : dTof D1 = some (KK, VV) := rfl
def FS : List (Str × U) := [(Str.ofString "stands", D1), (Str.ofString "holds", D0), (Str.ofString "kept_tags", D0), (Str.ofString "given_tags", D0)]
theorem get_new (st : Store) (o : Ob) : (st ++ [o])[st.length]? = some o := by simp
theorem set_new (st : Store) (o o' : Ob) : (st ++ [o]).set st.length o' = st ++ [o'] := by simp
theorem init_ev (st : Store) : f_Lists____init__ [.ref st.length, TAB] (st ++ [.obj sL []]) = .ok .non (st ++ [.obj sL FS]) := by
  have h1 : ∀ o, (st ++ [o])[st.length]? = some o := get_new st
  have h2 : ∀ o o', (st ++ [o]).set st.length o' = st ++ [o'] := set_new st
  have p1 : putU (Str.ofString "holds") D0 [(Str.ofString "stands", D1)] = [(Str.ofString "stands", D1), (Str.ofString "holds", D0)] := by
    unfold putU; rw [if_neg (by decide +kernel)]; rfl
  have p2 : putU (Str.ofString "kept_tags") D0 [(Str.ofString "stands", D1), (Str.ofString "holds", D0)] = [(Str.ofString "stands", D1), (Str.ofString "holds", D0), (Str.ofString "kept_tags", D0)] := by
    unfold putU; rw [if_neg (by decide +kernel)]; unfold putU; rw [if_neg (by decide +kernel)]; rfl
  have p3 : putU (Str.ofString "given_tags") D0 [(Str.ofString "stands", D1), (Str.ofString "holds", D0), (Str.ofString "kept_tags", D0)] = FS := by
    unfold putU; rw [if_neg (by decide +kernel)]; unfold putU; rw [if_neg (by decide +kernel)]; unfold putU; rw [if_neg (by decide +kernel)]; rfl
  have p0 : putU (Str.ofString "stands") D1 [] = [(Str.ofString "stands", D1)] := rfl
  unfold f_Lists____init__ b_Lists____init__ TAB
  generalize FS = F at *
  generalize D1 = d1 at *
  generalize D0 = d0 at *
  simp [putAll, h1, h2, p0, p1, p2, p3]
theorem look_stands : FS.lookup (Str.ofString "stands") = some D1 := by
  unfold FS
  rw [List.lookup_cons]
  simp
theorem look_stand : FS.lookup (Str.ofString "standing") = none := by
  have : FS.lookup (Str.ofString "standing") = [(Str.ofString "stands", D1), (Str.ofString "holds", D0), (Str.ofString "kept_tags", D0), (Str.ofString "given_tags", D0)].lookup (Str.ofString "standing") := rfl
  rw [this, List.lookup_cons, show (Str.ofString "standing" == Str.ofString "stands") = false by decide +kernel]
  simp only
  rw [List.lookup_cons, show (Str.ofString "standing" == Str.ofString "holds") = false by decide +kernel]
  simp only
  rw [List.lookup_cons, show (Str.ofString "standing" == Str.ofString "kept_tags") = false by decide +kernel]
  simp only
  rw [List.lookup_cons, show (Str.ofString "standing" == Str.ofString "given_tags") = false by decide +kernel]
  rfl
theorem standing_ev (m : Nat) (st : Store) (h : st[m]? = some (.obj sL FS)) (n : Str) (k : Int) (ls : List U) (hf : (findT [.inr n, .inl k] KK VV).getD (.lst []) = .lst ls) : f_Lists__standing [.ref m, .str n, .int k] st = .ok (.lst ls) st := by
  have l := look_stands
  have d := dT1
  have ko : kOfs [.str n, .int k] = some [.inr n, .inl k] := rfl
  unfold f_Lists__standing b_Lists__standing
  generalize FS = F at *
  generalize D1 = d1 at *
  simp [h, l, d, ko, hf]
/-- what stands, and the word in each -/
theorem verdict_ev (n : Str) (k : Int) (w : Str) (lss : List (List Str)) (hz : lss.length ≤ 100) (hf : (findT [.inr n, .inl k] KK VV).getD (.lst []) = .lst (lss.map tS)) (st : Store) :
    f_verdict_in [TAB, .tup [.str n, .int k], .str w] st = .ok (.str (if lss = [] then Str.ofString "never" else if lss.all (fun l => decide (w ∈ l)) = true then Str.ofString "sure" else if lss.any (fun l => decide (w ∈ l)) = true then Str.ofString "open" else Str.ofString "hopeless")) (st ++ [.obj sL FS]) := by
  have i := init_ev st
  have s := standing_ev st.length (st ++ [.obj sL FS]) (get_new _ _) n k _ hf
  have l := look_stand
  have h1 := get_new st (.obj sL FS)
  have alt : [(sL, f_Lists__standing)].lookup sL = some f_Lists__standing := by rw [List.lookup_cons]; simp
  have lm : (lss.map tS).length ≤ 16777216 := by rw [List.length_map]; omega
  have cm : ∀ a0 a1 a2 a3 : Sl, a2 = .val (.str w) → compL (tgN 4) yesT (bin in2 (var 2) (var 4)) (lss.map tS) [a0, a1, a2, a3, .un] (st ++ [.obj sL FS]) = .ok ((lss.map fun l => decide (w ∈ l)).map U.bl) (st ++ [.obj sL FS]) := fun a0 a1 a2 a3 h2 => by
    rw [List.map_map, h2]
    exact comp_allM lss fun l hl => ⟨_, rfl, by
      have := in_txt w l
      generalize tS l = TL at *
      simp [this]⟩
  have cm' := fun a0 a1 a3 => cm a0 a1 _ a3 rfl
  have al := all_bls (lss.map fun l => decide (w ∈ l))
  have an : anyN [.lst ((lss.map fun l => decide (w ∈ l)).map U.bl)] = some (.bl ((lss.map fun l => decide (w ∈ l)).any id)) := any_bls _
  have e0 : eq2 (.lst ((lss.map fun l => decide (w ∈ l)).map U.bl)) (.lst []) = some (.bl (decide (lss = []))) := by
    cases lss with
    | nil => simp
    | cons x l => simp
  rw [List.all_map] at al
  rw [List.any_map] at an
  have ac : (lss.all (id ∘ fun l => decide (w ∈ l))) = lss.all (fun l => decide (w ∈ l)) := rfl
  have nc : (lss.any (id ∘ fun l => decide (w ∈ l))) = lss.any (fun l => decide (w ∈ l)) := rfl
  rw [ac] at al
  rw [nc] at an
  unfold f_verdict_in b_verdict_in
  generalize (lss.map fun l => decide (w ∈ l)).map U.bl = BL at *
  generalize lss.map tS = LT at *
  generalize FS = F at *
  generalize f_Lists__standing = fs at *
  generalize f_Lists____init__ = fi at *
  generalize TAB = tab at *
  by_cases c0 : lss = []
  · rw [decide_eq_true c0] at e0
    simp [i, h1, alt, l, s, lm, wipeE, cm', e0, c0]
  · rw [decide_eq_false c0] at e0
    rw [if_neg c0]
    cases c1 : lss.all (fun l => decide (w ∈ l)) with
    | true =>
      rw [c1] at al
      simp [i, h1, alt, l, s, lm, wipeE, cm', e0, al]
    | false =>
      rw [c1] at al
      cases c2 : lss.any (fun l => decide (w ∈ l)) with
      | true =>
        rw [c2] at an
        simp [i, h1, alt, l, s, lm, wipeE, cm', e0, al, an]
      | false =>
        rw [c2] at an
        simp [i, h1, alt, l, s, lm, wipeE, cm', e0, al, an]
end T_allcallers_k54_no_place
namespace T_allcallers_k54_no_place
open PySem L2 D C
abbrev np : Str := Str.ofString "NoPlace"
abbrev BU : U := .lst [P1.u, P2.u]
theorem at_no (u : U) (h : ∀ st, f_is_place [BU, u] st = .ok (.bl false) st) (st : Store) : f_verdict_at [BU, TAB, u] st = .ex np [] st := by
  have e1 : f_look_at_book [BU] st = .ok .non st := look_B st
  have e2 := h st
  unfold f_verdict_at b_verdict_at
  generalize BU = b at *
  generalize TAB = t at *
  simp [e1, e2, fin]
theorem nin2' (x a b : Str) : nin2 (.str x) (.tup [.str a, .str b]) = some (.bl (!decide (x = a ∨ x = b))) := by
  rw [show U.tup [.str a, .str b] = tS [a, b] from rfl, nin_txt]; simp
/-- a place of a row -/
theorem at_row (n : Str) (p : Piece) (hp : pOf n = some p) (k : Nat) (hk : k < p.rows.length) (kw w1 : Str) (h0 : ix2 (p.rows[k]).u (.int 0) = some (.str kw)) (st : Store) :
    (¬ (kw = Str.ofString "ask" ∨ kw = Str.ofString "deed") → f_verdict_at [BU, TAB, .tup [.str n, .int (k : Int)]] st = .ex np [] st) ∧
    (kw = Str.ofString "ask" ∨ kw = Str.ofString "deed" → ix2 (p.rows[k]).u (.int 1) = some (.str w1) → f_verdict_at [BU, TAB, .tup [.str n, .int (k : Int)]] st = f_verdict_in [TAB, .tup [.str n, .int (k : Int)], .str w1] st) := by
  have e1 : f_look_at_book [BU] st = .ok .non st := look_B st
  have e2 : f_is_place [BU, .tup [.str n, .int (k : Int)]] st = .ok (.bl (isPl n (.int (k : Int)))) st := is_place_ev n (.int (k : Int)) (.int _) st
  have l4 := rows4 hp
  have ip : isPl n (.int (k : Int)) = true := by unfold isPl; rw [hp]; simp [wholeU]; omega
  rw [ip] at e2
  have e3 : f_piece_in [BU, .str n] st = .ok (match pOf n with | some p => p.u | none => .non) st := piece_in_ev' n st
  rw [hp] at e3
  simp only at e3
  obtain ⟨_, i3⟩ := ix_P p
  have ix : ix2 (.tup (p.rows.map Row.u)) (.int (k : Int)) = some (p.rows[k]).u := atI_at (by rw [List.getElem?_map, List.getElem?_eq_getElem hk]; rfl)
  have nn := nin2' kw (Str.ofString "ask") (Str.ofString "deed")
  generalize (p.rows[k]).u = RU at *
  generalize U.tup (p.rows.map Row.u) = PR at *
  generalize p.u = PU at *
  constructor
  · intro hn
    rw [decide_eq_false hn] at nn
    unfold f_verdict_at b_verdict_at
    generalize BU = b at *
    generalize TAB = t at *
    simp [e1, e2, e3, i3, ix, h0, nn, fin]
  · intro hn h1
    rw [decide_eq_true hn] at nn
    unfold f_verdict_at b_verdict_at
    generalize BU = b at *
    generalize TAB = t at *
    cases q : f_verdict_in [t, .tup [.str n, .int (k : Int)], .str w1] st <;> simp [e1, e2, e3, i3, ix, h0, nn, h1, q, fin]
section
variable (b u : U) (st : Store)
theorem told_ex (c : Str) (fs : List (Str × U)) (hc : c = nb ∨ c = np) (h : f_verdict_at [b, TAB, u] st = .ex c fs st) : f_l_told [b, u] st = .ok (.str (if c = nb then Str.ofString "book" else Str.ofString "place")) (st ++ [.ins c fs]) := by
  have dp := disp1
  have tb : U.tup [D1, .dct [] [], .dct [] [], .dct [] []] = TAB := rfl
  have z : (st ++ [Ob.ins c fs])[st.length]? = some (.ins c fs) := by simp
  have ir : ∀ n, is2 (.ref n) .non = some (.bl false) := fun _ => rfl
  have t1 : tabB [(nb, true), (np, true)] nb = some true := by decide +kernel
  have t2 : tabB [(nb, true), (np, true)] np = some true := by decide +kernel
  have t3 : tabB [(nb, false), (np, false)] nb = some false := by decide +kernel
  have t4 : tabB [(nb, false), (np, false)] np = some false := by decide +kernel
  have t5 : tabB [(nb, true), (np, false)] nb = some true := by decide +kernel
  have t6 : tabB [(nb, true), (np, false)] np = some false := by decide +kernel
  have t7 : tabB [(nb, false), (np, true)] nb = some false := by decide +kernel
  have t8 : tabB [(nb, false), (np, true)] np = some true := by decide +kernel
  have ne : ¬ np = nb := by decide +kernel
  rcases hc with rfl | rfl
  · unfold f_l_told b_l_told
    generalize D1 = d1 at *
    simp [pairsT, noEx, dp, tb, h, t1, t3, t5, t7, z, ir]
  · unfold f_l_told b_l_told
    generalize D1 = d1 at *
    simp [pairsT, noEx, dp, tb, h, t2, t4, t6, t8, z, ir, ne]
theorem told_ok (s : Str) (st' : Store) (hs : s = Str.ofString "never" ∨ s = Str.ofString "sure" ∨ s = Str.ofString "hopeless" ∨ s = Str.ofString "open") (h : f_verdict_at [b, TAB, u] st = .ok (.str s) st') : f_l_told [b, u] st = .ok (.str (Str.ofString "told")) st' := by
  have dp := disp1
  have tb : U.tup [D1, .dct [] [], .dct [] [], .dct [] []] = TAB := rfl
  have i4 : in2 (.str s) (.tup [.str (Str.ofString "never"), .str (Str.ofString "sure"), .str (Str.ofString "hopeless"), .str (Str.ofString "open")]) = some (.bl true) := by
    rw [show U.tup [.str (Str.ofString "never"), .str (Str.ofString "sure"), .str (Str.ofString "hopeless"), .str (Str.ofString "open")] = tS [Str.ofString "never", Str.ofString "sure", Str.ofString "hopeless", Str.ofString "open"] from rfl, in_txt]
    rcases hs with rfl | rfl | rfl | rfl <;> simp
  unfold f_l_told b_l_told
  generalize D1 = d1 at *
  simp [pairsT, noEx, dp, tb, h, i4]
end
end T_allcallers_k54_no_place
namespace T_allcallers_k54_no_place
open PySem L2 D C
theorem eq_pair (a b : Str) (i j : Int) : D.eqU (.tup [.str a, .int i]) (.tup [.str b, .int j]) = (decide (a = b) && decide (i = j)) := by
  have e : D.eqU (.tup [.str a, .int i]) (.tup [.str b, .int j]) = ((a == b) && ((i == j) && true)) := by
    simp [D.eqU, pd, pds, PyData.eqv, PyData.eqvAll]
  rw [e, Bool.and_true]
  rfl
theorem ok_pair (a : Str) (i : Int) (h : okU 1 (.str a) = true) : okD (.tup [.str a, .int i]) = true := okD_of 3 (by
  have h' : okU 2 (.str a) = true := h
  show (okU 2 (.str a) && (okU 2 (.int i) && true)) = true
  rw [h']; rfl)
theorem ok_l : okD (.lst [.tup [.str sO, .int 0], .tup [.str sO, .int 2], .tup [.str sT, .int 1]]) = true := okD_of 4 (by decide +kernel)
theorem in_good (n : Str) (hn : okU 1 (.str n) = true) (i : Int) : in2 (.tup [.str n, .int i]) (.lst [.tup [.str sO, .int 0], .tup [.str sO, .int 2], .tup [.str sT, .int 1]]) = some (.bl (decide (sO = n) && decide (0 = i) || (decide (sO = n) && decide (2 = i) || decide (sT = n) && decide (1 = i)))) := by
  have h1 := ok_pair n i hn
  have h2 := ok_l
  unfold in2
  simp [flatU, boxU, strU, h1, h2, eq_pair]
/-- a thing that is asked for as a place: what the law thinks of it, what is told -/
def Pl (u : U) : Prop := ∃ g : Bool, (∀ st, f_l_good [u] st = .ok (.bl g) st) ∧ ∀ st, if g = true then ∃ s, (s = Str.ofString "never" ∨ s = Str.ofString "sure" ∨ s = Str.ofString "hopeless" ∨ s = Str.ofString "open") ∧ f_verdict_at [BU, TAB, u] st = .ok (.str s) (st ++ [.obj sL FS]) else f_verdict_at [BU, TAB, u] st = .ex np [] st
theorem pl_bad {u : U} (h1 : ∀ st, f_l_good [u] st = .ok (.bl false) st) (h2 : ∀ st, f_is_place [BU, u] st = .ok (.bl false) st) : Pl u := ⟨false, h1, fun st => by rw [if_neg Bool.false_ne_true]; exact at_no u h2 st⟩
section
theorem pl_odd {u : U} (h : isiN [u, .ty "tuple"] = some (.bl false)) : Pl u := pl_bad (fun st => by unfold f_l_good b_l_good; simp [h]) fun st => by unfold f_is_place b_is_place; simp [h]
theorem pl_len (us : List U) (h : us.length ≠ 2) : Pl (.tup us) := by
  have hi : ¬ (us.length : Int) = 2 := by omega
  exact pl_bad (fun st => by unfold f_l_good b_l_good; simp [h, hi]) fun st => by unfold f_is_place b_is_place; simp [h, hi]
theorem pl_first (a b : U) (ha : isiN [a, .ty "str"] = some (.bl false)) (hb : At2 b) : Pl (.tup [a, b]) := by
  refine pl_bad (fun st => ?_) fun st => ?_
  · unfold f_l_good b_l_good
    cases hb <;> simp [ha]
  · unfold f_is_place b_is_place
    simp [ha]
theorem pl_int (n : Str) (hn : okU 1 (.str n) = true) (i : Int) : Pl (.tup [.str n, .int i]) := by
  have g : ∀ st, f_l_good [.tup [.str n, .int i]] st = .ok (.bl (decide (sO = n) && decide (0 = i) || (decide (sO = n) && decide (2 = i) || decide (sT = n) && decide (1 = i)))) st := fun st => by
    have := in_good n hn i
    unfold f_l_good b_l_good
    simp [this]
  cases hp : pOf n with
  | none =>
    have n1 : ¬ sO = n := fun e => by unfold pOf at hp; rw [if_pos e] at hp; cases hp
    have n2 : ¬ sT = n := fun e => by unfold pOf at hp; rw [if_neg n1, if_pos e] at hp; cases hp
    rw [decide_eq_false n1, decide_eq_false n2] at g
    exact pl_bad g fun st => by
      have := is_place_ev n (.int i) (.int _) st
      rw [show isPl n (.int i) = false by unfold isPl; rw [hp]] at this
      exact this
  | some p =>
    by_cases hi : 0 ≤ i ∧ i < 4
    · obtain ⟨k, rfl⟩ := Int.eq_ofNat_of_zero_le hi.1
      have l4 := rows4 hp
      have hk : k < 4 := by omega
      have nO : sO ≠ sT := by decide +kernel
      unfold pOf at hp
      split at hp
      · rename_i e
        cases hp
        subst e
        have hp : pOf sO = some P1 := by unfold pOf; rw [if_pos rfl]
        have hk4 : k = 0 ∨ k = 1 ∨ k = 2 ∨ k = 3 := by omega
        rcases hk4 with rfl | rfl | rfl | rfl
        · refine ⟨true, fun st => by rw [g]; simp, fun st => ?_⟩
          rw [if_pos rfl]
          have v := verdict_ev sO 0 sW [[], [sW]] (by decide) (by rfl) st
          exact ⟨_, by decide +kernel, ((at_row sO P1 hp 0 (by decide) (Str.ofString "ask") sW rfl st).2 (.inl rfl) rfl).trans v⟩
        · refine ⟨false, fun st => by rw [g]; simp [Ne.symm nO], fun st => ?_⟩
          rw [if_neg Bool.false_ne_true]
          exact (at_row sO P1 hp 1 (by decide) (Str.ofString "done") sW rfl st).1 (by decide +kernel)
        · refine ⟨true, fun st => by rw [g]; simp, fun st => ?_⟩
          rw [if_pos rfl]
          have v := verdict_ev sO 2 sX [] (by decide) (by rfl) st
          exact ⟨_, by decide +kernel, ((at_row sO P1 hp 2 (by decide) (Str.ofString "deed") sX rfl st).2 (.inr rfl) rfl).trans v⟩
        · refine ⟨false, fun st => by rw [g]; simp, fun st => ?_⟩
          rw [if_neg Bool.false_ne_true]
          exact (at_row sO P1 hp 3 (by decide) (Str.ofString "on") sW rfl st).1 (by decide +kernel)
      · split at hp
        · rename_i e1 e
          cases hp
          subst e
          have hp : pOf sT = some P2 := by unfold pOf; rw [if_neg nO, if_pos rfl]
          have hk4 : k = 0 ∨ k = 1 ∨ k = 2 ∨ k = 3 := by omega
          rcases hk4 with rfl | rfl | rfl | rfl
          · refine ⟨false, fun st => by rw [g]; simp [nO], fun st => ?_⟩
            rw [if_neg Bool.false_ne_true]
            exact (at_row sT P2 hp 0 (by decide) (Str.ofString "on") sW rfl st).1 (by decide +kernel)
          · refine ⟨true, fun st => by rw [g]; simp, fun st => ?_⟩
            rw [if_pos rfl]
            have v := verdict_ev sT 1 sW [[sW]] (by decide) (by rfl) st
            exact ⟨_, by decide +kernel, ((at_row sT P2 hp 1 (by decide) (Str.ofString "deed") sW rfl st).2 (.inr rfl) rfl).trans v⟩
          · refine ⟨false, fun st => by rw [g]; simp [nO], fun st => ?_⟩
            rw [if_neg Bool.false_ne_true]
            exact (at_row sT P2 hp 2 (by decide) (Str.ofString "skip") sW rfl st).1 (by decide +kernel)
          · refine ⟨false, fun st => by rw [g]; simp [nO], fun st => ?_⟩
            rw [if_neg Bool.false_ne_true]
            exact (at_row sT P2 hp 3 (by decide) (Str.ofString "count") sW rfl st).1 (by decide +kernel)
        · cases hp
    · have n0 : ¬ (0 = i) := by omega
      have n1 : ¬ (1 = i) := by omega
      have n2 : ¬ (2 = i) := by omega
      rw [decide_eq_false n0, decide_eq_false n1, decide_eq_false n2, Bool.and_false, Bool.and_false] at g
      exact pl_bad g fun st => by
        have := is_place_ev n (.int i) (.int _) st
        rw [show isPl n (.int i) = false by unfold isPl; rw [hp]; exact decide_eq_false hi] at this
        exact this
theorem pl_at (n : Str) (hn : okU 1 (.str n) = true) (a : U) (ha : At2 a) : Pl (.tup [.str n, a]) := by
  have ni : ∀ a, At2 a → wholeU a = none → isPl n a = false := fun a _ h => by unfold isPl; rw [h]; cases pOf n <;> rfl
  cases ha with
  | int i => exact pl_int n hn i
  | bl b => exact pl_bad (fun st => by unfold f_l_good b_l_good; simp) fun st => by have := is_place_ev n (.bl b) (.bl b) st; rw [ni _ (.bl b) rfl] at this; exact this
  | str x => exact pl_bad (fun st => by unfold f_l_good b_l_good; simp) fun st => by have := is_place_ev n (.str x) (.str x) st; rw [ni _ (.str x) rfl] at this; exact this
  | non => exact pl_bad (fun st => by unfold f_l_good b_l_good; simp) fun st => by have := is_place_ev n .non .non st; rw [ni _ .non rfl] at this; exact this
  | tup => exact pl_bad (fun st => by unfold f_l_good b_l_good; simp) fun st => by have := is_place_ev n (.tup [.int 0]) .tup st; rw [ni _ .tup rfl] at this; exact this
/-- turned round -/
theorem pl_turn (n : Str) (a : U) (ha : At2 a) : Pl (.tup [a, .str n]) := by
  cases ha with
  | str x =>
    refine pl_bad (fun st => by unfold f_l_good b_l_good; simp) fun st => ?_
    have := is_place_ev x (.str n) (.str n) st
    rw [show isPl x (.str n) = false by unfold isPl; cases pOf x <;> rfl] at this
    exact this
  | int i => exact pl_first _ _ rfl (.str n)
  | bl b => exact pl_first _ _ rfl (.str n)
  | non => exact pl_first _ _ rfl (.str n)
  | tup => exact pl_first _ _ rfl (.str n)
end
end T_allcallers_k54_no_place
namespace T_allcallers_k54_no_place
open PySem L2 D C
theorem numbersR_ok (c : Int) (sizes : List Int) (hs : ∀ s ∈ sizes, 0 < s ∧ s < 1073741824) (hl : sizes.length ≤ 1000) (st : Store) :
    ∃ ds : List Int, f_l_numbers [.int c, .lst (sizes.map .int)] st = .ok (.ref st.length) (st ++ [.lst (ds.map .int)]) ∧ ds.length = sizes.length ∧ ∀ (i : Nat) (s d : Int), sizes[i]? = some s → ds[i]? = some d → 0 ≤ d ∧ d < s := by
  obtain ⟨ds, left, s5, s6, he, hlen, hb⟩ := numbers_loop c sizes hs hl st
  refine ⟨ds, ?_, hlen, hb⟩
  have hrng := rng1_nat sizes.length (by omega)
  have e2 : t1_l_numbers = b_numTurn := rfl
  unfold f_l_numbers b_l_numbers
  rw [e2]
  simp [maxN, sub2, neg1, lenN, hrng, he, -gt_iff_lt]
def names : List Str := [sO, sT, Str.ofString "none", Str.ofString ""]
theorem names_ok : ∀ n ∈ names, okU 1 (.str n) = true := by decide +kernel
def odds (n : Str) (a : U) : List U := [.lst [.str n, a], .tup [.str n, a, .int 1], .tup [a, .str n], .str n, .non, .int 5, .tup [], .dct [] [], .tup [.lst [.str n], a], .tup [.dct [] [], .int 0]]
theorem odds_pl (n : Str) (a : U) (ha : At2 a) : ∀ u ∈ odds n a, Pl u := by
  intro u hu
  simp only [odds, List.mem_cons, List.not_mem_nil, or_false] at hu
  rcases hu with rfl | rfl | rfl | rfl | rfl | rfl | rfl | rfl | rfl | rfl
  · exact pl_odd rfl
  · exact pl_len _ (by simp)
  · exact pl_turn n a ha
  · exact pl_odd rfl
  · exact pl_odd rfl
  · exact pl_odd rfl
  · exact pl_len _ (by simp)
  · exact pl_odd rfl
  · exact pl_first _ _ rfl ha
  · exact pl_first _ _ rfl (.int 0)
def ats (d1 : Int) (x : Str) : List U := [.int d1, .bl true, .str x, .int (-1), .int 60, .non, .tup [.int 0]]
theorem ats_at (d1 : Int) (x : Str) : ∀ a ∈ ats d1 x, At2 a := by
  intro a ha
  simp only [ats, List.mem_cons, List.not_mem_nil, or_false] at ha
  rcases ha with rfl | rfl | rfl | rfl | rfl | rfl | rfl
  · exact .int _
  · exact .bl _
  · exact .str _
  · exact .int _
  · exact .int _
  · exact .non
  · exact .tup
theorem ix_of {l : List U} {k : Nat} {u : U} (h : l[k]? = some u) : ix2 (.lst l) (.int (k : Int)) = some u := atI_at h
theorem str6 (d : Int) (h : 0 ≤ d ∧ d < 6) : ∃ x, strN [.int d] = some (.str x) := by
  have q : d.natAbs.log2 < 1920 := by
    by_cases z : d.natAbs = 0
    · rw [z]; decide
    · rw [Nat.log2_lt z]
      have : d.natAbs < 2 ^ 60 := by omega
      exact Nat.lt_of_lt_of_le this (Nat.pow_le_pow_right (by decide) (by decide))
  exact ⟨_, if_pos q⟩
set_option maxHeartbeats 1000000 in
theorem place_ev (m : Nat) (st : Store) (d0 d1 d2 d3 d4 : Int) (hst : st[m]? = some (.lst [.int d0, .int d1, .int d2, .int d3, .int d4])) (h0 : 0 ≤ d0 ∧ d0 < 4) (h1 : 0 ≤ d1 ∧ d1 < 6) (h2 : 0 ≤ d2 ∧ d2 < 7) (h3 : 0 ≤ d3) :
    ∃ u, f_l_place [.ref m] st = .ok u st ∧ Pl u := by
  obtain ⟨x, hx⟩ := str6 d1 h1
  obtain ⟨k0, rfl⟩ := Int.eq_ofNat_of_zero_le h0.1
  obtain ⟨k2, rfl⟩ := Int.eq_ofNat_of_zero_le h2.1
  obtain ⟨k3, rfl⟩ := Int.eq_ofNat_of_zero_le h3
  have hn : k0 < names.length := by show k0 < 4; omega
  have ha : k2 < (ats d1 x).length := by show k2 < 7; omega
  obtain ⟨n, en⟩ : ∃ n, n = names[k0] := ⟨_, rfl⟩
  obtain ⟨a, ea⟩ : ∃ a, a = (ats d1 x)[k2] := ⟨_, rfl⟩
  have nok : okU 1 (.str n) = true := by rw [en]; exact names_ok _ (List.getElem_mem hn)
  have at2 : At2 a := by rw [ea]; exact ats_at d1 x _ (List.getElem_mem ha)
  have i0 : ix2 (.lst [.str sO, .str sT, .str (Str.ofString "none"), .str (Str.ofString "")]) (.int (k0 : Int)) = some (.str n) := ix_of (by
    have : (names.map U.str)[k0]? = some (.str n) := by rw [List.getElem?_map, List.getElem?_eq_getElem hn, en]; rfl
    exact this)
  have i2 : ix2 (.lst [.int d1, .bl true, .str x, .int (-1), .int 60, .non, .tup [.int 0]]) (.int (k2 : Int)) = some a := ix_of (by rw [ea]; exact List.getElem?_eq_getElem ha)
  by_cases c : k3 < 10
  · have ci : (k3 : Int) < 10 := by omega
    have ho : k3 < (odds n a).length := c
    have i3 : ix2 (.lst [.lst [.str n, a], .tup [.str n, a, .int 1], .tup [a, .str n], .str n, .non, .int 5, .tup [], .dct [] [], .tup [.lst [.str n], a], .tup [.dct [] [], .int 0]]) (.int (k3 : Int)) = some (odds n a)[k3] := ix_of (List.getElem?_eq_getElem ho)
    refine ⟨(odds n a)[k3], ?_, odds_pl n a at2 _ (List.getElem_mem ho)⟩
    generalize (odds n a)[k3] = O at *
    unfold f_l_place b_l_place
    simp [hst, i0, i2, hx, ci, c, i3]
  · have ci : ¬ (k3 : Int) < 10 := by omega
    refine ⟨.tup [.str n, a], ?_, pl_at n nok a at2⟩
    unfold f_l_place b_l_place
    simp [hst, i0, i2, hx, ci, c]
end T_allcallers_k54_no_place
namespace T_allcallers_k54_no_place
open PySem L2 D C
theorem for_st2 {T : Type} {t : Tg} {b : DS} {f : T → U} (I : D.Env → Store → Prop) : ∀ (l : List T) (env : D.Env) (st : Store), I env st → (∀ x ∈ l, ∀ env st, I env st → ∃ a env' st', t (f x) = some a ∧ b (setE env a) st = .nx env' st' ∧ I env' st') → ∃ env' st', forL t b (l.map f) env st = .nx env' st' ∧ I env' st'
  | [], env, st, h, _ => ⟨env, st, rfl, h⟩
  | x :: l, env, st, h, step => by
    obtain ⟨a, env1, st1, h1, h2, h3⟩ := step x (List.mem_cons_self ..) env st h
    obtain ⟨env2, st2, e, q⟩ := for_st2 I l env1 st1 h3 fun y hy => step y (List.mem_cons_of_mem _ hy)
    exact ⟨env2, st2, by rw [List.map_cons, for_cons, h1]; simp only [h2]; exact e, q⟩
theorem at_BB (u : U) (st : Store) : ∃ fs, f_verdict_at [.lst [P1.u, P2.u, P1.u, P2.u], TAB, u] st = .ex nb fs st := by
  obtain ⟨fs, e⟩ := look_BB st
  refine ⟨fs, ?_⟩
  unfold f_verdict_at b_verdict_at
  generalize U.lst [P1.u, P2.u, P1.u, P2.u] = b at *
  generalize TAB = t at *
  simp [e, fin]
/-- the first look of a turn -/
theorem told_pl (u : U) (h : Pl u) (st : Store) : ∃ g more, f_l_told [BU, u] st = .ok (.str (if g = true then Str.ofString "told" else Str.ofString "place")) (st ++ more) ∧ ∀ s, f_l_good [u] s = .ok (.bl g) s := by
  obtain ⟨g, h1, h2⟩ := h
  have q := h2 st
  cases g with
  | true =>
    rw [if_pos rfl] at q
    obtain ⟨s, hs, e⟩ := q
    exact ⟨true, _, told_ok BU u st s _ hs e, h1⟩
  | false =>
    rw [if_neg Bool.false_ne_true] at q
    have e := told_ex BU u st np [] (.inr rfl) q
    rw [if_neg (by decide +kernel)] at e
    exact ⟨false, _, e, h1⟩
theorem five {ds : List Int} (h : ds.length = 5) : ∃ a b c d e, ds = [a, b, c, d, e] := by
  match ds, h with
  | [a, b, c, d, e], _ => exact ⟨a, b, c, d, e, rfl⟩
def S1ok (s : Sl) : Prop := s = .own [P1.u, P2.u] ∨ s = .val BU
set_option maxHeartbeats 2000000 in
theorem turn (c : Int) (a0 s1 s3 s4 : Sl) (hs1 : S1ok s1) (st : Store) : ∃ s3' s4' st', t1_law [a0, s1, .val (.int c), s3, s4] st = .nx [a0, .val BU, .val (.int c), s3', s4'] st' := by
  obtain ⟨ds, e1, hl, hb⟩ := numbersR_ok c [4, 6, 12, 24, 5] (by decide) (by decide) st
  obtain ⟨d0, d1, d2, d3, d4, rfl⟩ := five hl
  have b0 := hb 0 4 d0 rfl rfl
  have b1 := hb 1 6 d1 rfl rfl
  have b2 := hb 2 12 d2 rfl rfl
  have b3 := hb 3 24 d3 rfl rfl
  obtain ⟨m2, hm, hm2⟩ : ∃ m2 : Int, maxN [.int 0, .int (d2 - 5)] = some (.int m2) ∧ 0 ≤ m2 ∧ m2 < 7 := by
    by_cases q : d2 - 5 > 0
    · exact ⟨d2 - 5, by show some (U.int (if d2 - 5 > 0 then _ else _)) = _; rw [if_pos q], by omega⟩
    · exact ⟨0, by show some (U.int (if d2 - 5 > 0 then _ else _)) = _; rw [if_neg q], by omega⟩
  obtain ⟨st1, hst1⟩ : ∃ s : Store, s = st ++ [.lst [.int d0, .int d1, .int m2, .int d3, .int d4]] := ⟨_, rfl⟩
  have g1 : (st ++ [Ob.lst [.int d0, .int d1, .int d2, .int d3, .int d4]])[st.length]? = some (.lst [.int d0, .int d1, .int d2, .int d3, .int d4]) := by simp
  have se : (st ++ [Ob.lst [.int d0, .int d1, .int d2, .int d3, .int d4]]).set st.length (.lst [.int d0, .int d1, .int m2, .int d3, .int d4]) = st1 := by rw [hst1]; simp
  have g2 : st1[st.length]? = some (.lst [.int d0, .int d1, .int m2, .int d3, .int d4]) := by rw [hst1]; simp
  obtain ⟨u, e2, pu⟩ := place_ev st.length st1 d0 d1 m2 d3 d4 g2 b0 b1 hm2 b3.1
  obtain ⟨g, more, e4, e5⟩ := told_pl u pu st1
  obtain ⟨st2, hst2⟩ : ∃ s : Store, s = st1 ++ more := ⟨_, rfl⟩
  rw [← hst2] at e4
  obtain ⟨fs, e6⟩ := at_BB u st2
  have e7 := told_ex (.lst [P1.u, P2.u, P1.u, P2.u]) u st2 nb fs (.inl rfl) e6
  rw [if_pos rfl] at e7
  have g3 : st2[st.length]? = some (.lst [.int d0, .int d1, .int m2, .int d3, .int d4]) := by
    rw [hst2, List.getElem?_append_left (by rw [hst1]; simp)]; exact g2
  have ad : add2 BU BU = some (.lst [P1.u, P2.u, P1.u, P2.u]) := rfl
  have e1 : f_l_numbers [.int c, .lst [.int 4, .int 6, .int 12, .int 24, .int 5]] st = .ok (.ref st.length) (st ++ [.lst [.int d0, .int d1, .int d2, .int d3, .int d4]]) := e1
  have e5' := e5 st2
  have fz : frz1 s1 = .val BU := by rcases hs1 with rfl | rfl <;> rfl
  refine ⟨.val (.ref st.length), .val u, (if d4 = 0 then st2 ++ [.ins nb fs] else st2), ?_⟩
  have nt : ∀ b : Bool, ne2 (.str (if b = true then Str.ofString "told" else Str.ofString "place")) (.str (if b = true then Str.ofString "told" else Str.ofString "place")) = some (.bl false) := fun b => by
    cases b <;> simp
  have nbk : ne2 (.str (Str.ofString "book")) (.str (Str.ofString "book")) = some (.bl false) := by simp
  have ixg : ∀ b : Bool, ix2 (.lst [.str (Str.ofString "place"), .str (Str.ofString "told")]) (.int (if b = true then 1 else 0)) = some (.str (if b = true then Str.ofString "told" else Str.ofString "place")) := fun b => by cases b <;> rfl
  unfold t1_law
  generalize U.lst [P1.u, P2.u, P1.u, P2.u] = BB at *
  generalize BU = bu at *
  generalize f_l_told = ft at *
  generalize f_l_good = fg at *
  generalize f_l_place = fp at *
  generalize f_l_numbers = fn at *
  have i5 : ixN 5 2 = some 2 := rfl
  have fz2 : frz1 (.val bu) = .val bu := rfl
  have se' := hst1.symm
  by_cases q : d4 = 0
  · rw [if_pos q]
    have q' : (d4 = 0) = True := eq_true q
    cases g <;> simp [e1, hm, g1, se', i5, e2, frzE, fz, fz2, e4, e5', g3, q', ad, e7]
  · rw [if_neg q]
    have q' : (d4 = 0) = False := eq_false q
    cases g <;> simp [e1, hm, g1, se', i5, e2, frzE, fz, fz2, e4, e5', g3, q']
theorem law_true (ns : List Int) (h : ns.length ≤ 63) : ∃ st', f_law [.scr ns] [] = .ok (.bl true) st' := by
  obtain ⟨env', st', e, s1, s2, s3, s4, hs, rfl⟩ := for_st2 (t := tgN 2) (b := t1_law) (f := U.int) (fun env _ => ∃ s1 s2 s3 s4, S1ok s1 ∧ env = [.val (.scr ns), s1, s2, s3, s4]) ([0, 1, 2] ++ ns.take 40) [.val (.scr ns), .own [P1.u, P2.u], .un, .un, .un] [] ⟨_, _, _, _, .inl rfl, rfl⟩ (fun c hc env st ⟨s1, s2, s3, s4, hs, he⟩ => by
    obtain ⟨s3', s4', st', e⟩ := turn c (.val (.scr ns)) s1 s3 s4 hs st
    exact ⟨_, _, _, rfl, by rw [he]; exact e, _, _, _, _, .inr rfl, rfl⟩)
  refine ⟨st', ?_⟩
  have sl : sl3 (.scr ns) none (some 40) = some (.lst ((ns.take 40).map U.int)) := by simp
  have lz : (ns.take 40).length ≤ 40 := List.length_take_le ..
  have ad : add2 (.lst [.int 0, .int 1, .int 2]) (.lst ((ns.take 40).map U.int)) = some (.lst (([0, 1, 2] ++ ns.take 40).map U.int)) := by
    show (if _ then _ else _) = _
    rw [if_pos (by rw [sizeLine_val]; simp; omega)]
    simp
  have it : items (.lst (([0, 1, 2] ++ ns.take 40).map U.int)) = some (([0, 1, 2] ++ ns.take 40).map U.int) := rfl
  have p1 : U.tup [.str (Str.ofString "one"), .tup [.str (Str.ofString "w")], .tup [], .tup [.tup [.str (Str.ofString "ask"), .str (Str.ofString "w"), .int 1], .tup [.str (Str.ofString "done"), .str (Str.ofString "w"), .str (Str.ofString "x")], .tup [.str (Str.ofString "deed"), .str (Str.ofString "x"), .str (Str.ofString "x")], .tup [.str (Str.ofString "on")]]] = P1.u := rfl
  have p2 : U.tup [.str (Str.ofString "two"), .tup [], .tup [], .tup [.tup [.str (Str.ofString "on")], .tup [.str (Str.ofString "deed"), .str (Str.ofString "w"), .str (Str.ofString "x")], .tup [.str (Str.ofString "skip"), .str (Str.ofString "x"), .int 1], .tup [.str (Str.ofString "count")]]] = P2.u := rfl
  have hL : ([0, 1, 2] ++ ns.take 40).map U.int = U.int 0 :: U.int 1 :: U.int 2 :: List.take 40 (List.map U.int ns) := by simp
  rw [hL] at e
  have hz : 3 + min 40 ns.length ≤ 16777216 := by omega
  unfold f_law b_law
  generalize t1_law = tl at *
  simp [p1, p2, sl, e, hz]
end T_allcallers_k54_no_place
open PySem PySem.W PyProof.Rows
set_option maxHeartbeats 0 in
theorem PySem.Challenge.cw_allcallers_k54_no_place_holds : PySem.Challenge.rw_allcallers_k54_no_place.Holds := by
  w_on; o_law; k_head; (case hw => w_witness2)
  k_fill
  refine L2.walk_of (l := PySem.Challenge.rw_allcallers_k54_no_place) (n := 63) (k := 9) (x := "_law_script") (CX := fun w => L2.CX PySem.Challenge.rw_allcallers_k54_no_place.prog w) (sp := fun w => D.spX _ 1 T_allcallers_k54_no_place.f_law) rfl (by decide) rfl ⟨rfl, by decide, by decide⟩ (fun w h Y => PySem.W.kIn_of Y) ?F (fun _ H a ns hl _ hS => D.law_sp hS (T_allcallers_k54_no_place.law_true ns hl)) (fun _ _ _ _ _ h => D.cx_no h)
  case F =>
    intro w mg fa h KX G hmg
    refine' T_allcallers_k54_no_place.all_mk KX G hmg ?a0 ?l0 ?c0 ?k0 ?a1 ?l1 ?c1 ?k1 ?a2 ?l2 ?c2 ?k2 ?a3 ?l3 ?c3 ?k3 ?a4 ?l4 ?c4 ?k4 ?a5 ?l5 ?c5 ?k5 ?a6 ?l6 ?c6 ?k6 ?a7 ?l7 ?c7 ?k7 ?a8 ?l8 ?c8 ?k8 ?a9 ?l9 ?c9 ?k9 ?a10 ?l10 ?c10 ?k10 ?a11 ?l11 ?c11 ?k11 ?a12 ?l12 ?c12 ?k12 ?a13 ?l13 ?c13 ?k13 ?a14 ?l14 ?c14 ?k14 ?a15 ?l15 ?c15 ?k15 ?a16 ?l16 ?c16 ?k16 ?a17 ?l17 ?c17 ?k17 ?a18 ?l18 ?c18 ?k18 ?l19 ?c19 ?k19 ?l20 ?c20 ?k20 ?a21 ?l21 ?c21 ?k21 ?a22 ?l22 ?c22 ?k22 ?a23 ?l23 ?c23 ?k23 ?a24 ?l24 ?c24 ?k24 ?z_ValueError ?z_abs ?z_all ?z_any ?z_bool ?z_enumerate ?z_int ?z_isinstance ?z_len ?z_list ?z_max ?z_range ?z_set ?z_sorted ?z_str ?z_tuple ?z_zip ?z_GREATEST ?z_LETTERS ?z_LONGEST ?z_MOST ?z_MOST_ARGS ?z_MOST_LEAVES ?z_MOST_PIECES ?z_MOST_ROWS ?z_PARTS ?q_PARTS ?r_PARTS ?o_PARTS ?u_PARTS ?oa_Lists ?o0_Lists ?o1_Lists ?o2_Lists ?o3_Lists ?on_Lists_given_tags ?on_Lists_holds ?on_Lists_kept_tags ?on_Lists_stands ?om_Lists ?oi_Lists ?okc_Lists ?of_Lists_standing ?ofn_Lists____init__ ?ofn_Lists__standing ?ka_CallersError ?kh_CallersError ?kt_CallersError ?kx_CallersError ?ka_NoBook ?kh_NoBook ?kt_NoBook ?kx_NoBook ?ka_NoName ?kh_NoName ?kt_NoName ?kx_NoName ?ka_NoPiece ?kh_NoPiece ?kt_NoPiece ?kx_NoPiece ?ka_NoPlace ?kh_NoPlace ?kt_NoPlace ?kx_NoPlace ?ka_NoRow ?kh_NoRow ?kt_NoRow ?kx_NoRow ?ka_NoRun ?kh_NoRun ?kt_NoRun ?kx_NoRun ?ka_NoText ?kh_NoText ?kt_NoText ?kx_NoText ?ka_Twice ?kh_Twice ?kt_Twice ?kx_Twice ?x0_NoBook ?x1_NoBook ?x2_NoBook ?x3_NoBook ?x4_NoBook ?x5_NoBook ?x6_NoBook ?x7_NoBook ?x0_NoPlace ?x1_NoPlace ?x2_NoPlace ?x3_NoPlace ?x4_NoPlace ?x5_NoPlace ?x6_NoPlace ?x7_NoPlace ?g_NoBook_piece ?g_NoBook_row ?s_NoBook_CallersError ?n_NoBook_CallersError ?s_NoBook_NoName ?n_NoBook_NoName ?s_NoBook_NoPiece ?n_NoBook_NoPiece ?s_NoBook_NoPlace ?n_NoBook_NoPlace ?s_NoBook_NoRow ?n_NoBook_NoRow ?s_NoBook_NoRun ?n_NoBook_NoRun ?s_NoBook_NoText ?n_NoBook_NoText ?s_NoBook_Twice ?n_NoBook_Twice ?s_NoPlace_CallersError ?n_NoPlace_CallersError ?s_NoPlace_NoBook ?n_NoPlace_NoBook ?s_NoPlace_NoName ?n_NoPlace_NoName ?s_NoPlace_NoPiece ?n_NoPlace_NoPiece ?s_NoPlace_NoRow ?n_NoPlace_NoRow ?s_NoPlace_NoRun ?n_NoPlace_NoRun ?s_NoPlace_NoText ?n_NoPlace_NoText ?s_NoPlace_Twice ?n_NoPlace_Twice ?s_NoBook_ValueError ?s_NoPlace_ValueError ?lc_NoBook ?rc_NoBook ?sa_NoBook ?kc_NoBook ?ai_NoBook ?ti_NoBook ?li_NoBook ?ci_NoBook ?ki_NoBook ?q_NoPlace ?kc_NoPlace ?b1_CallersError ?b3_CallersError ?bv_CallersError
    (case oa_Lists => k_is)
    (case oi_Lists => k_is)
    (case of_Lists_standing => k_is)
    (case a0 => k_is)
    (case l0 => k_is)
    (case c0 => k_is)
    (case k0 => k_is)
    (case a1 => k_is)
    (case l1 => k_is)
    (case c1 => k_is)
    (case k1 => k_is)
    (case a2 => k_is)
    (case l2 => k_is)
    (case c2 => k_is)
    (case k2 => k_is)
    (case a3 => k_is)
    (case l3 => k_is)
    (case c3 => k_is)
    (case k3 => k_is)
    (case a4 => k_is)
    (case l4 => k_is)
    (case c4 => k_is)
    (case k4 => k_is)
    (case a5 => k_is)
    (case l5 => k_is)
    (case c5 => k_is)
    (case k5 => k_is)
    (case a6 => k_is)
    (case l6 => k_is)
    (case c6 => k_is)
    (case k6 => k_is)
    (case a7 => k_is)
    (case l7 => k_is)
    (case c7 => k_is)
    (case k7 => k_is)
    (case a8 => k_is)
    (case l8 => k_is)
    (case c8 => k_is)
    (case k8 => k_is)
    (case a9 => k_is)
    (case l9 => k_is)
    (case c9 => k_is)
    (case k9 => k_is)
    (case a10 => k_is)
    (case l10 => k_is)
    (case c10 => k_is)
    (case k10 => k_is)
    (case a11 => k_is)
    (case l11 => k_is)
    (case c11 => k_is)
    (case k11 => k_is)
    (case a12 => k_is)
    (case l12 => k_is)
    (case c12 => k_is)
    (case k12 => k_is)
    (case a13 => k_is)
    (case l13 => k_is)
    (case c13 => k_is)
    (case k13 => k_is)
    (case a14 => k_is)
    (case l14 => k_is)
    (case c14 => k_is)
    (case k14 => k_is)
    (case a15 => k_is)
    (case l15 => k_is)
    (case c15 => k_is)
    (case k15 => k_is)
    (case a16 => k_is)
    (case l16 => k_is)
    (case c16 => k_is)
    (case k16 => k_is)
    (case a17 => k_is)
    (case l17 => k_is)
    (case c17 => k_is)
    (case k17 => k_is)
    (case a18 => k_is)
    (case l18 => k_is)
    (case c18 => k_is)
    (case k18 => k_is)
    (case l19 => k_is)
    (case c19 => k_is)
    (case k19 => k_is)
    (case l20 => k_is)
    (case c20 => k_is)
    (case k20 => k_is)
    (case a21 => k_is)
    (case l21 => k_is)
    (case c21 => k_is)
    (case k21 => k_is)
    (case a22 => k_is)
    (case l22 => k_is)
    (case c22 => k_is)
    (case k22 => k_is)
    (case a23 => k_is)
    (case l23 => k_is)
    (case c23 => k_is)
    (case k23 => k_is)
    (case a24 => k_is)
    (case l24 => k_is)
    (case c24 => k_is)
    (case k24 => k_is)
    (case z_ValueError => k_is)
    (case z_abs => k_is)
    (case z_all => k_is)
    (case z_any => k_is)
    (case z_bool => k_is)
    (case z_enumerate => k_is)
    (case z_int => k_is)
    (case z_isinstance => k_is)
    (case z_len => k_is)
    (case z_list => k_is)
    (case z_max => k_is)
    (case z_range => k_is)
    (case z_set => k_is)
    (case z_sorted => k_is)
    (case z_str => k_is)
    (case z_tuple => k_is)
    (case z_zip => k_is)
    (case z_GREATEST => k_is)
    (case z_LETTERS => k_is)
    (case z_LONGEST => k_is)
    (case z_MOST => k_is)
    (case z_MOST_ARGS => k_is)
    (case z_MOST_LEAVES => k_is)
    (case z_MOST_PIECES => k_is)
    (case z_MOST_ROWS => k_is)
    (case z_PARTS => k_is)
    (case q_PARTS => k_is)
    (case r_PARTS => k_keys)
    (case o_PARTS => rfl)
    (case u_PARTS => rfl)
    (case o0_Lists => k_is)
    (case o1_Lists => k_is)
    (case o2_Lists => k_is)
    (case o3_Lists => k_is)
    (case on_Lists_given_tags => k_is)
    (case on_Lists_holds => k_is)
    (case on_Lists_kept_tags => k_is)
    (case on_Lists_stands => k_is)
    (case om_Lists => k_is)
    (case okc_Lists => k_is)
    (case ofn_Lists____init__ => k_is)
    (case ofn_Lists__standing => k_is)
    (case ka_CallersError => k_is)
    (case kh_CallersError => k_is)
    (case kt_CallersError => k_is)
    (case kx_CallersError => k_is)
    (case ka_NoBook => k_is)
    (case kh_NoBook => k_is)
    (case kt_NoBook => k_is)
    (case kx_NoBook => k_is)
    (case ka_NoName => k_is)
    (case kh_NoName => k_is)
    (case kt_NoName => k_is)
    (case kx_NoName => k_is)
    (case ka_NoPiece => k_is)
    (case kh_NoPiece => k_is)
    (case kt_NoPiece => k_is)
    (case kx_NoPiece => k_is)
    (case ka_NoPlace => k_is)
    (case kh_NoPlace => k_is)
    (case kt_NoPlace => k_is)
    (case kx_NoPlace => k_is)
    (case ka_NoRow => k_is)
    (case kh_NoRow => k_is)
    (case kt_NoRow => k_is)
    (case kx_NoRow => k_is)
    (case ka_NoRun => k_is)
    (case kh_NoRun => k_is)
    (case kt_NoRun => k_is)
    (case kx_NoRun => k_is)
    (case ka_NoText => k_is)
    (case kh_NoText => k_is)
    (case kt_NoText => k_is)
    (case kx_NoText => k_is)
    (case ka_Twice => k_is)
    (case kh_Twice => k_is)
    (case kt_Twice => k_is)
    (case kx_Twice => k_is)
    (case x0_NoBook => k_is)
    (case x1_NoBook => k_is)
    (case x2_NoBook => k_is)
    (case x3_NoBook => k_is)
    (case x4_NoBook => k_is)
    (case x5_NoBook => k_is)
    (case x6_NoBook => k_is)
    (case x7_NoBook => k_is)
    (case x0_NoPlace => k_is)
    (case x1_NoPlace => k_is)
    (case x2_NoPlace => k_is)
    (case x3_NoPlace => k_is)
    (case x4_NoPlace => k_is)
    (case x5_NoPlace => k_is)
    (case x6_NoPlace => k_is)
    (case x7_NoPlace => k_is)
    (case g_NoBook_piece => k_is)
    (case g_NoBook_row => k_is)
    (case s_NoBook_CallersError => k_is)
    (case n_NoBook_CallersError => rfl)
    (case s_NoBook_NoName => k_is)
    (case n_NoBook_NoName => rfl)
    (case s_NoBook_NoPiece => k_is)
    (case n_NoBook_NoPiece => rfl)
    (case s_NoBook_NoPlace => k_is)
    (case n_NoBook_NoPlace => rfl)
    (case s_NoBook_NoRow => k_is)
    (case n_NoBook_NoRow => rfl)
    (case s_NoBook_NoRun => k_is)
    (case n_NoBook_NoRun => rfl)
    (case s_NoBook_NoText => k_is)
    (case n_NoBook_NoText => rfl)
    (case s_NoBook_Twice => k_is)
    (case n_NoBook_Twice => rfl)
    (case s_NoPlace_CallersError => k_is)
    (case n_NoPlace_CallersError => rfl)
    (case s_NoPlace_NoBook => k_is)
    (case n_NoPlace_NoBook => rfl)
    (case s_NoPlace_NoName => k_is)
    (case n_NoPlace_NoName => rfl)
    (case s_NoPlace_NoPiece => k_is)
    (case n_NoPlace_NoPiece => rfl)
    (case s_NoPlace_NoRow => k_is)
    (case n_NoPlace_NoRow => rfl)
    (case s_NoPlace_NoRun => k_is)
    (case n_NoPlace_NoRun => rfl)
    (case s_NoPlace_NoText => k_is)
    (case n_NoPlace_NoText => rfl)
    (case s_NoPlace_Twice => k_is)
    (case n_NoPlace_Twice => rfl)
    (case s_NoBook_ValueError => k_is)
    (case s_NoPlace_ValueError => k_is)
    (case lc_NoBook => k_is)
    (case rc_NoBook => rfl)
    (case sa_NoBook => k_is)
    (case kc_NoBook => k_is)
    (case ai_NoBook => k_is)
    (case ti_NoBook => k_is)
    (case li_NoBook => k_is)
    (case ci_NoBook => k_is)
    (case ki_NoBook => k_is)
    (case q_NoPlace => k_exc)
    (case kc_NoPlace => k_is)
    (case b1_CallersError => k_is)
    (case b3_CallersError => k_is)
    (case bv_CallersError => k_is)
