import PyProof.Rows.All
import Wide.All
import OpenK.AllK
import Wide.FinOn
import HandS.ForMost
import HandS.IsInst
import HandS.Flow
import HandS.WordsExc
import HandS.CallSlots
import HandS.Style
import HandS.TupAny
import HandS.TupLe
import HandS.Deep
import HandS.Small
import PyProof.NeKinds
import PyProof.EqKinds
import KE.GoesEnum
import HandS.Zip
import HandS.Rev
import HandS.Strs
import HandS.SetFor
import PyProof.SetRoads
import PyProof.Rows.SortShellAny
import PyProof.Rows.SortShellSt
import HandS.TryOnly
import HandS.More
import HandS.SortKw
import KE.DatumOrd
import HandS.Exc
import HandS.ExcIs
import HandS.ExcField
import HandS.ExcInit
import HandS.ExcOwn
import PyProof.TupleOfStr
import HandS.Conv
import HandS.Text
import HandS.RaiseMore
import PySem.Challenge.RW_allcallers_k10_shown
set_option Elab.async false
set_option linter.all false
set_option maxRecDepth 100000
namespace D
open PySem L2

/-! ### data -/
inductive U where
  | non | bl (b : Bool) | int (i : Int) | str (x : Str)
  | tup (us : List U) | lst (us : List U) | dct (ks us : List U)
  | ref (n : Nat) | ty (n : String) | scr (ns : List Int)
inductive Ob where
  | lst (us : List U) | dct (ks us : List U) | ins (c : Str) (fs : List (Str × U)) | gone
abbrev Store := List Ob
/-- how a step ends -/
inductive Rs (α : Type) where
  | ok (a : α) (st : Store) | ex (c : Str) (us : List (Str × U)) (st : Store) | bad
def Rs.bind {α β : Type} (r : Rs α) (k : α → Store → Rs β) : Rs β := match r with
  | .ok a st => k a st
  | .ex c us st => .ex c us st
  | .bad => .bad
def Rs.of {α : Type} (o : Option α) (st : Store) : Rs α := match o with
  | some a => .ok a st
  | none => .bad
/-- a slot: nothing, a value, a list that this frame owns -/
inductive Sl where
  | un | val (u : U) | own (us : List U)
abbrev Env := List Sl
abbrev DE := Env → Store → Rs U
abbrev DA := Env → Store → Rs (List U)
abbrev DT := Env → Store → Rs Bool

/-! ### how data lies in the heap -/
def KL (K : PySem.W.Frag) (a : Addr) (xs : List V) : Prop :=
  ∃ (o : Obj) (its : Array Value) (n : Nat), K.lookup a = some o ∧ o.cls = .type "list" ∧ o.dict = none ∧ o.data = .seq its n ∧ its.size ≤ sizeLine ∧ Vals xs its.toList
def KT (K : PySem.W.Frag) (a : Addr) (xs : List V) : Prop :=
  ∃ (o : Obj) (its : Array Value) (n : Nat), K.lookup a = some o ∧ o.cls = .type "tuple" ∧ o.data = .seq its n ∧ its.size ≤ sizeLine ∧ Vals xs its.toList
/-- never written: W tells what may be -/
def LL (K : PySem.W.Frag) (W : Addr → Prop) (H : Hp) (a : Addr) (xs : List V) : Prop := H a = some (.lst xs) ∧ ¬ W a
/-- the script -/
def LS (K : PySem.W.Frag) (W : Addr → Prop) (H : Hp) (a : Addr) (xs : List V) : Prop := (Rd H a (.lst xs) ∧ ¬ W a) ∨ KL K a xs
def LT (K : PySem.W.Frag) (W : Addr → Prop) (H : Hp) (a : Addr) (xs : List V) : Prop := (Rd H a (.tup xs) ∧ ¬ W a) ∨ KT K a xs
theorem LL.sq {K : PySem.W.Frag} {W : Addr → Prop} {H : Hp} {a : Addr} {xs : List V} (h : LL K W H a xs) : SqL K H a xs := .inl (.inl h.1)
theorem LS.sq {K : PySem.W.Frag} {W : Addr → Prop} {H : Hp} {a : Addr} {xs : List V} (h : LS K W H a xs) : SqL K H a xs := h.elim (fun x => .inl x.1) .inr
theorem LT.sq {K : PySem.W.Frag} {W : Addr → Prop} {H : Hp} {a : Addr} {xs : List V} (h : LT K W H a xs) : SqT K H a xs := h.elim (fun x => .inl x.1) .inr

def kU : Key → U
  | .inl i => .int i
  | .inr x => .str x
/-- a dict that is never written: keys ints and texts, or tuples of such -/
def LD (W : Addr → Prop) (H : Hp) (a : Addr) (ks : List U) (vs : List V) : Prop := ¬ W a ∧
  ((∃ kvs : List (Key × V), Rd H a (.dK kvs) ∧ ks = kvs.map (fun p => kU p.1) ∧ vs = kvs.map (·.2)) ∨
   (∃ kvs : List (List Key × V), H a = some (.dT kvs) ∧ ks = kvs.map (fun p => U.tup (p.1.map kU)) ∧ vs = kvs.map (·.2)))

mutual
def Rep (K : PySem.W.Frag) (W : Addr → Prop) (io : List Addr) (H : Hp) : U → V → Prop
  | .non, v => v = .non
  | .bl b, v => v = .bl b
  | .int i, v => v = .int i
  | .str x, v => v = .str x
  | .ty n, v => v = .ty n
  | .ref n, v => ∃ a, io[n]? = some a ∧ v = .ref a
  | .tup us, v => ∃ a vs, v = .ref a ∧ LT K W H a vs ∧ Reps K W io H us vs
  | .lst us, v => ∃ a vs, v = .ref a ∧ LL K W H a vs ∧ Reps K W io H us vs
  | .dct ks us, v => ∃ a vs, v = .ref a ∧ LD W H a ks vs ∧ Reps K W io H us vs
  | .scr ns, v => ∃ a, v = .ref a ∧ LS K W H a (ns.map V.int)
def Reps (K : PySem.W.Frag) (W : Addr → Prop) (io : List Addr) (H : Hp) : List U → List V → Prop
  | [], vs => vs = []
  | u :: us, vs => ∃ v r, vs = v :: r ∧ Rep K W io H u v ∧ Reps K W io H us r
end

/-- what a way may turn: the store's own objects alone; what it adds is new -/
structure Ext (io : List Addr) (H : Hp) (io' : List Addr) (H' : Hp) : Prop where
  pre : ∃ more, io' = io ++ more ∧ ∀ a ∈ more, H a = none
  keep : ∀ a o, a ∉ io → H a = some o → H' a = some o
  stay : ∀ a o, H a = some o → ∃ o', H' a = some o'
def Wf (G : Addr → Prop) (io : List Addr) : Addr → Prop := fun a => G a ∨ a ∈ io

theorem Ext.refl (io : List Addr) (H : Hp) : Ext io H io H := ⟨⟨[], by simp, fun _ h => nomatch h⟩, fun _ _ _ h => h, fun _ o h => ⟨o, h⟩⟩
theorem Ext.same {io : List Addr} {H H' : Hp} (s : Same H H') : Ext io H io H' := ⟨⟨[], by simp, fun _ h => nomatch h⟩, fun a o _ h => s a o h, fun a o h => ⟨o, s a o h⟩⟩
theorem Ext.trans {io io1 io2 : List Addr} {H H1 H2 : Hp} (a : Ext io H io1 H1) (b : Ext io1 H1 io2 H2) : Ext io H io2 H2 := by
  have st := a.stay
  obtain ⟨m1, e1, f1⟩ := a.pre
  obtain ⟨m2, e2, f2⟩ := b.pre
  refine ⟨⟨m1 ++ m2, by rw [e2, e1, List.append_assoc], fun x hx => ?_⟩, fun x o hx h => ?_, fun x o h => let ⟨o1, e1⟩ := a.stay x o h; b.stay x o1 e1⟩
  · rcases List.mem_append.mp hx with h | h
    · exact f1 x h
    · have z := f2 x h
      cases q : H x with
      | none => rfl
      | some o =>
        obtain ⟨o', e⟩ := st x o q
        rw [e] at z; cases z
  · refine b.keep x o (fun z => ?_) (a.keep x o hx h)
    rw [e1] at z
    rcases List.mem_append.mp z with z | z
    · exact hx z
    · rw [f1 x z] at h; cases h

section
variable {K : PySem.W.Frag} {G : Addr → Prop} {io io' : List Addr} {H H' : Hp}
theorem Ext.io_get (e : Ext io H io' H') {n : Nat} {a : Addr} (h : io[n]? = some a) : io'[n]? = some a := by
  obtain ⟨m, rfl, _⟩ := e.pre
  rw [List.getElem?_append_left (List.getElem?_eq_some_iff.mp h).1]; exact h
theorem Ext.notW (e : Ext io H io' H') {a : Addr} {o : HO} (h : ¬ Wf G io a) (ho : H a = some o) : ¬ Wf G io' a := by
  obtain ⟨m, rfl, f⟩ := e.pre
  rintro (z | z)
  · exact h (.inl z)
  · rcases List.mem_append.mp z with z | z
    · exact h (.inr z)
    · rw [f a z] at ho; cases ho
theorem Ext.rd (e : Ext io H io' H') {a : Addr} {u : HO} (h : Rd H a u) (n : ¬ Wf G io a) : Rd H' a u ∧ ¬ Wf G io' a := by
  rcases h with h | ⟨o, h⟩
  · exact ⟨.inl (e.keep a _ (fun z => n (.inr z)) h), e.notW n h⟩
  · exact ⟨.inr ⟨o, e.keep a _ (fun z => n (.inr z)) h⟩, e.notW n h⟩
/-- what plain data stands still under -/
structure Mono (G : Addr → Prop) (io : List Addr) (H : Hp) (G' : Addr → Prop) (io' : List Addr) (H' : Hp) : Prop where
  pre : ∃ more, io' = io ++ more
  keep : ∀ a o, ¬ Wf G io a → H a = some o → H' a = some o ∧ ¬ Wf G' io' a
theorem Ext.mono (e : Ext io H io' H') : Mono G io H G io' H' := ⟨let ⟨m, q, _⟩ := e.pre; ⟨m, q⟩, fun a o n h => ⟨e.keep a o (fun z => n (.inr z)) h, e.notW n h⟩⟩
end
section
variable {K : PySem.W.Frag} {G G' : Addr → Prop} {io io' : List Addr} {H H' : Hp}
theorem Mono.rd (e : Mono G io H G' io' H') {a : Addr} {u : HO} (h : Rd H a u) (n : ¬ Wf G io a) : Rd H' a u ∧ ¬ Wf G' io' a := by
  rcases h with h | ⟨o, h⟩
  · exact ⟨.inl (e.keep a _ n h).1, (e.keep a _ n h).2⟩
  · exact ⟨.inr ⟨o, (e.keep a _ n h).1⟩, (e.keep a _ n h).2⟩
theorem LL.mono (e : Mono G io H G' io' H') {a : Addr} {xs : List V} (h : LL K (Wf G io) H a xs) : LL K (Wf G' io') H' a xs := e.keep a _ h.2 h.1
theorem LS.mono (e : Mono G io H G' io' H') {a : Addr} {xs : List V} (h : LS K (Wf G io) H a xs) : LS K (Wf G' io') H' a xs := h.elim (fun x => .inl (e.rd x.1 x.2)) .inr
theorem LT.mono (e : Mono G io H G' io' H') {a : Addr} {xs : List V} (h : LT K (Wf G io) H a xs) : LT K (Wf G' io') H' a xs := h.elim (fun x => .inl (e.rd x.1 x.2)) .inr
theorem LD.mono (e : Mono G io H G' io' H') {a : Addr} {ks : List U} {vs : List V} (h : LD (Wf G io) H a ks vs) : LD (Wf G' io') H' a ks vs := by
  obtain ⟨n, ⟨kvs, h1, h2⟩ | ⟨kvs, h1, h2⟩⟩ := h
  · exact ⟨(e.rd h1 n).2, .inl ⟨kvs, (e.rd h1 n).1, h2⟩⟩
  · exact ⟨(e.keep a _ n h1).2, .inr ⟨kvs, (e.keep a _ n h1).1, h2⟩⟩
mutual
theorem Rep.mono (e : Mono G io H G' io' H') : ∀ (u : U) (v : V), Rep K (Wf G io) io H u v → Rep K (Wf G' io') io' H' u v
  | .non, v, h => by unfold Rep at h ⊢; exact h
  | .bl b, v, h => by unfold Rep at h ⊢; exact h
  | .int i, v, h => by unfold Rep at h ⊢; exact h
  | .str x, v, h => by unfold Rep at h ⊢; exact h
  | .ty n, v, h => by unfold Rep at h ⊢; exact h
  | .ref n, v, h => by
    unfold Rep at h ⊢
    obtain ⟨a, h1, h2⟩ := h
    obtain ⟨m, rfl⟩ := e.pre
    exact ⟨a, by rw [List.getElem?_append_left (List.getElem?_eq_some_iff.mp h1).1]; exact h1, h2⟩
  | .tup us, v, h => by
    unfold Rep at h ⊢
    obtain ⟨a, vs, h1, h2, h3⟩ := h
    exact ⟨a, vs, h1, h2.mono e, Reps.mono e us vs h3⟩
  | .lst us, v, h => by
    unfold Rep at h ⊢
    obtain ⟨a, vs, h1, h2, h3⟩ := h
    exact ⟨a, vs, h1, h2.mono e, Reps.mono e us vs h3⟩
  | .dct ks us, v, h => by
    unfold Rep at h ⊢
    obtain ⟨a, vs, h1, h2, h3⟩ := h
    exact ⟨a, vs, h1, h2.mono e, Reps.mono e us vs h3⟩
  | .scr ns, v, h => by
    unfold Rep at h ⊢
    obtain ⟨a, h1, h2⟩ := h
    exact ⟨a, h1, h2.mono e⟩
theorem Reps.mono (e : Mono G io H G' io' H') : ∀ (us : List U) (vs : List V), Reps K (Wf G io) io H us vs → Reps K (Wf G' io') io' H' us vs
  | [], vs, h => by unfold Reps at h ⊢; exact h
  | u :: us, vs, h => by
    unfold Reps at h ⊢
    obtain ⟨v, r, h1, h2, h3⟩ := h
    exact ⟨v, r, h1, Rep.mono e u v h2, Reps.mono e us r h3⟩
end
theorem Rep.ext (e : Ext io H io' H') (u : U) (v : V) (h : Rep K (Wf G io) io H u v) : Rep K (Wf G io') io' H' u v := Rep.mono e.mono u v h
theorem Reps.ext (e : Ext io H io' H') (u : List U) (v : List V) (h : Reps K (Wf G io) io H u v) : Reps K (Wf G io') io' H' u v := Reps.mono e.mono u v h
end

section
variable {K : PySem.W.Frag} {W : Addr → Prop} {io : List Addr} {H : Hp}
theorem Reps.nil : Reps K W io H [] [] := by unfold Reps; rfl
theorem Reps.cons {u : U} {v : V} {us : List U} {vs : List V} (h : Rep K W io H u v) (t : Reps K W io H us vs) : Reps K W io H (u :: us) (v :: vs) := by unfold Reps; exact ⟨v, vs, rfl, h, t⟩
theorem Reps.uncons {u : U} {us : List U} {vs : List V} (h : Reps K W io H (u :: us) vs) : ∃ v r, vs = v :: r ∧ Rep K W io H u v ∧ Reps K W io H us r := by unfold Reps at h; exact h
theorem Reps.isNil {vs : List V} (h : Reps K W io H [] vs) : vs = [] := by unfold Reps at h; exact h
theorem Reps.length : ∀ {us : List U} {vs : List V}, Reps K W io H us vs → us.length = vs.length
  | [], _, h => by rw [h.isNil]; rfl
  | u :: us, _, h => by
    obtain ⟨v, r, rfl, _, t⟩ := h.uncons
    simp [Reps.length t]
theorem Reps.get : ∀ {us : List U} {vs : List V} {i : Nat} {u : U}, Reps K W io H us vs → us[i]? = some u → ∃ v, vs[i]? = some v ∧ Rep K W io H u v
  | [], _, _, _, _, e => by simp at e
  | u :: us, _, 0, _, h, e => by
    obtain ⟨v, r, rfl, q, t⟩ := h.uncons
    simp at e; subst e
    exact ⟨v, rfl, q⟩
  | u :: us, _, i + 1, _, h, e => by
    obtain ⟨v, r, rfl, q, t⟩ := h.uncons
    simpa using Reps.get t (by simpa using e)
theorem Reps.append : ∀ {us ws : List U} {vs xs : List V}, Reps K W io H us vs → Reps K W io H ws xs → Reps K W io H (us ++ ws) (vs ++ xs)
  | [], _, _, _, h, t => by rw [h.isNil]; exact t
  | u :: us, _, _, _, h, t => by
    obtain ⟨v, r, rfl, q, t'⟩ := h.uncons
    exact .cons q (Reps.append t' t)
theorem Reps.take : ∀ {us : List U} {vs : List V} (n : Nat), Reps K W io H us vs → Reps K W io H (us.take n) (vs.take n)
  | _, _, 0, _ => by simp; exact .nil
  | [], _, n + 1, h => by rw [h.isNil]; exact .nil
  | u :: us, _, n + 1, h => by
    obtain ⟨v, r, rfl, q, t⟩ := h.uncons
    exact .cons q (Reps.take n t)
theorem Reps.drop : ∀ {us : List U} {vs : List V} (n : Nat), Reps K W io H us vs → Reps K W io H (us.drop n) (vs.drop n)
  | _, _, 0, h => h
  | [], _, n + 1, h => by rw [h.isNil]; exact .nil
  | u :: us, _, n + 1, h => by
    obtain ⟨v, r, rfl, q, t⟩ := h.uncons
    exact Reps.drop n t
theorem Reps.ofInts : ∀ {ns : List Int} {vs : List V}, Reps K W io H (ns.map U.int) vs → vs = ns.map V.int
  | [], _, h => h.isNil
  | n :: ns, _, h => by
    obtain ⟨v, r, rfl, q, t⟩ := h.uncons
    unfold Rep at q
    rw [q, Reps.ofInts t]; rfl
theorem Reps.ints (ns : List Int) : Reps K W io H (ns.map U.int) (ns.map V.int) := by
  induction ns with
  | nil => exact .nil
  | cons n ns ih => exact .cons (by unfold Rep; rfl) ih
theorem Reps.ofBls : ∀ {ns : List Bool} {vs : List V}, Reps K W io H (ns.map U.bl) vs → vs = ns.map V.bl
  | [], _, h => h.isNil
  | n :: ns, _, h => by
    obtain ⟨v, r, rfl, q, t⟩ := h.uncons
    unfold Rep at q
    rw [q, Reps.ofBls t]; rfl
theorem Reps.ofStrs : ∀ {ns : List Str} {vs : List V}, Reps K W io H (ns.map U.str) vs → vs = ns.map V.str
  | [], _, h => h.isNil
  | n :: ns, _, h => by
    obtain ⟨v, r, rfl, q, t⟩ := h.uncons
    unfold Rep at q
    rw [q, Reps.ofStrs t]; rfl
theorem Reps.strs (ns : List Str) : Reps K W io H (ns.map U.str) (ns.map V.str) := by
  induction ns with
  | nil => exact .nil
  | cons n ns ih => exact .cons (by unfold Rep; rfl) ih
end

/-- no dict of an exception -/
def NX (o : HO) : Prop := ∀ ws, o ≠ .xd ws
theorem nx_lst {vs : List V} : NX (.lst vs) := fun _ z => nomatch z
/-- the class of a name -/
def clsAt (K : PySem.W.Frag) (c : Str) : Option Addr := match PySem.W.nsIn K mainGlobals c with
  | some (some (.ref C)) => some C
  | _ => none
/-- an exception that was caught -/
def exk (cls : Value) (d : Option Addr) (a : Addr) : HO := .ext fun h => ∃ (oe : Obj) (vs : Array Value), h.get? a = some oe ∧ Zc cls d oe ∧ oe.data = .fields vs
theorem nx_exk {cls : Value} {d : Option Addr} {a : Addr} : NX (exk cls d a) := fun ws z => by
  have z' : HO.ext _ = HO.xd ws := z
  cases z'
def flatE : U → Option V
  | .non => some .non
  | .bl b => some (.bl b)
  | .int i => some (.int i)
  | .str x => some (.str x)
  | _ => none
/-- the fields of an exception -/
def XD (fs : List (Str × U)) (d : Option Addr) (H : Hp) : Prop := (fs = [] ∧ d = none) ∨ ∃ dd ws, d = some dd ∧ H dd = some (.xd ws) ∧ fs.map (fun p => (p.1, flatE p.2)) = ws.map (fun p => (p.1, some p.2))
theorem XD.keep {fs : List (Str × U)} {d : Option Addr} {H H' : Hp} (h : XD fs d H) (k : ∀ dd ws, H dd = some (.xd ws) → H' dd = some (.xd ws)) : XD fs d H' := by
  rcases h with h | ⟨dd, ws, h1, h2, h3⟩
  · exact .inl h
  · exact .inr ⟨dd, ws, h1, k dd ws h2, h3⟩
/-- an object of the store -/
def ObRep (K : PySem.W.Frag) (W : Addr → Prop) (io : List Addr) (H : Hp) (a : Addr) : Ob → Prop
  | .lst us => ∃ vs, H a = some (.lst vs) ∧ Reps K W io H us vs
  | .dct _ _ => False
  | .ins c fs => ∃ C d, clsAt K c = some C ∧ H a = some (exk (.ref C) d a) ∧ XD fs d H
  | .gone => True
/-- the store lies in the heap; G: what is written by none of these ways, and never plain data -/
structure Ok (K : PySem.W.Frag) (G : Addr → Prop) (io : List Addr) (st : Store) (H : Hp) : Prop where
  nd : io.Nodup
  dj : ∀ a ∈ io, ¬ G a
  trk : ∀ a, Wf G io a → ∃ o, H a = some o ∧ NX o
  len : st.length = io.length
  obs : ∀ (n : Nat) (ob : Ob) (a : Addr), st[n]? = some ob → io[n]? = some a → ObRep K (Wf G io) io H a ob

def SlRep (K : PySem.W.Frag) (G : Addr → Prop) (io : List Addr) (H : Hp) : Sl → Option V → Prop
  | .un, _ => True
  | .val u, o => ∃ v, o = some v ∧ Rep K (Wf G io) io H u v
  | .own us, o => ∃ a vs, o = some (.ref a) ∧ G a ∧ H a = some (.lst vs) ∧ Reps K (Wf G io) io H us vs
structure EnvRep (K : PySem.W.Frag) (G : Addr → Prop) (io : List Addr) (H : Hp) (env : Env) (sg : St) : Prop where
  len : env.length = sg.length
  sl : ∀ (i : Nat) s o, env[i]? = some s → sg[i]? = some o → SlRep K G io H s o

section
variable {K : PySem.W.Frag} {G : Addr → Prop} {io io' : List Addr} {H H' : Hp} {st : Store} {env : Env} {sg : St}
theorem Ok.same (h : Ok K G io st H) (s : Same H H') : Ok K G io st H' := ⟨h.nd, h.dj, fun a q => let ⟨o, e, x⟩ := h.trk a q; ⟨o, s a o e, x⟩, h.len, fun n ob a e1 e2 => by
  have q := h.obs n ob a e1 e2
  cases ob with
  | lst us =>
    obtain ⟨vs, q1, q2⟩ := q
    exact ⟨vs, s _ _ q1, q2.ext (Ext.same s)⟩
  | dct _ _ => exact q
  | ins c fs =>
    obtain ⟨C, d, q1, q2, q3⟩ := q
    exact ⟨C, d, q1, s _ _ q2, q3.keep fun dd ws z => s _ _ z⟩
  | gone => trivial⟩
theorem Ok.fresh (h : Ok K G io st H) {p : Addr} (hp : H p = none) : ¬ Wf G io p := fun q => by
  obtain ⟨o, e, _⟩ := h.trk p q
  rw [hp] at e; cases e
theorem EnvRep.ext (h : EnvRep K G io H env sg) (dj : ∀ a ∈ io, ¬ G a) (e : Ext io H io' H') : EnvRep K G io' H' env sg := ⟨h.len, fun i s o e1 e2 => by
  have q := h.sl i s o e1 e2
  cases s with
  | un => trivial
  | val u =>
    obtain ⟨v, q1, q2⟩ := q
    exact ⟨v, q1, q2.ext e⟩
  | own us =>
    obtain ⟨a, vs, q1, q2, q3, q4⟩ := q
    exact ⟨a, vs, q1, q2, e.keep a _ (fun z => dj a z q2) q3, q4.ext e⟩⟩
end

/-! ### readings -/
/-- what is wanted of a way's end: a value, an exception -/
def Wants {A : Type} (K : PySem.W.Frag) (G : Addr → Prop) (io : List Addr) (H : Hp) (R : Store → List Addr → Hp → A → Prop) (XR : Str → List (Str × U) → Store → List Addr → Hp → Prop) : Rs A → Prop
  | .ok a st' => ∀ io' H', Ok K G io' st' H' → Ext io H io' H' → R st' io' H' a
  | .ex c us st' => ∀ io' H', Ok K G io' st' H' → Ext io H io' H' → XR c us st' io' H'
  | .bad => False
section
variable {A B : Type} {K : PySem.W.Frag} {G : Addr → Prop} {io io1 : List Addr} {H H1 : Hp} {R R' : Store → List Addr → Hp → A → Prop} {XR XR' : Str → List (Str × U) → Store → List Addr → Hp → Prop}
theorem Wants.imp {r : Rs A} (h : Wants K G io H R XR r) (f : ∀ st' io' H' a, Ok K G io' st' H' → Ext io H io' H' → R st' io' H' a → R' st' io' H' a)
    (g : ∀ c us st' io' H', Ok K G io' st' H' → Ext io H io' H' → XR c us st' io' H' → XR' c us st' io' H') : Wants K G io H R' XR' r := by
  cases r with
  | ok a st => exact fun io' H' o e => f st io' H' a o e (h io' H' o e)
  | ex c us st => exact fun io' H' o e => g c us st io' H' o e (h io' H' o e)
  | bad => exact h
theorem Wants.impR {r : Rs A} (h : Wants K G io H R XR r) (f : ∀ st' io' H' a, Ok K G io' st' H' → Ext io H io' H' → R st' io' H' a → R' st' io' H' a) : Wants K G io H R' XR r := h.imp f fun _ _ _ _ _ _ _ q => q
theorem Wants.later {r : Rs A} (h : Wants K G io H R XR r) (e : Ext io H io1 H1) : Wants K G io1 H1 R XR r := by
  cases r with
  | ok a st => exact fun io' H' o e' => h io' H' o (e.trans e')
  | ex c us st => exact fun io' H' o e' => h io' H' o (e.trans e')
  | bad => exact h
theorem Wants.bind {R : Store → List Addr → Hp → B → Prop} {r : Rs A} {k : A → Store → Rs B} (h : Wants K G io H R XR (r.bind k)) : Wants K G io H (fun st1 io1 H1 a => Wants K G io1 H1 R XR (k a st1)) XR r := by
  cases r with
  | ok a st => exact fun io' H' o e' => Wants.later (r := k a st) h e'
  | ex c us st => exact h
  | bad => exact h
theorem Wants.here {a : A} {st : Store} (h : Wants K G io H R XR (.ok a st)) (ok : Ok K G io st H) : R st io H a := h io H ok (Ext.refl _ _)
theorem Wants.hereS {a : A} {st : Store} (h : Wants K G io H R XR (.ok a st)) (ok : Ok K G io st H) (s : Same H H1) : R st io H1 a := h io H1 (ok.same s) (Ext.same s)
end
/-- an exception as the layer tells it (class value, own dict) -/
abbrev XS := Str → List (Str × U) → Value → Option Addr → Hp → Prop
/-- what is wanted of an exception at the slots sg -/
abbrev XW (xs : XS) (wx : WX) (sg : L2.St) : Str → List (Str × U) → Store → List Addr → Hp → Prop := fun c us _ _ H' => ∀ cls d, xs c us cls d H' → wx cls d sg H'
def tD (K : PySem.W.Frag) (xs : XS) (wx : WX) (f : DE) : TE := fun sg H Q => ∃ G io st env, Ok K G io st H ∧ EnvRep K G io H env sg ∧
  Wants K G io H (fun _ io' H' u => ∀ v, Rep K (Wf G io') io' H' u v → Q v H') (XW xs wx sg) (f env st)
def tDT (K : PySem.W.Frag) (xs : XS) (wx : WX) (f : DT) : TT := fun sg H Q => ∃ G io st env, Ok K G io st H ∧ EnvRep K G io H env sg ∧
  Wants K G io H (fun _ _ H' b => Q b H') (XW xs wx sg) (f env st)
def tDA (K : PySem.W.Frag) (xs : XS) (wx : WX) (f : DA) : TA := fun sg H Q => ∃ G io st env, Ok K G io st H ∧ EnvRep K G io H env sg ∧
  Wants K G io H (fun _ io' H' us => ∀ vs, Reps K (Wf G io') io' H' us vs → Q vs H') (XW xs wx sg) (f env st)
theorem pe_imp {X : Cx} {e : Expr} {t t' : TE} (h : PE X e t) (f : ∀ sg H Q, t' sg H Q → t sg H Q) : PE X e t' := ⟨fun pins s sg H Q I q => h.run pins s sg H Q I (f sg H Q q)⟩
theorem pt_imp {X : Cx} {e : Expr} {t t' : TT} (h : PT X e t) (f : ∀ sg H Q, t' sg H Q → t sg H Q) : PT X e t' := ⟨fun pins s sg H Q I q => h.run pins s sg H Q I (f sg H Q q)⟩
theorem pw_imp {X : Cx} {e : Expr} {t t' : TT} (h : PW X e t) (f : ∀ sg H Q, t' sg H Q → t sg H Q) : PW X e t' := ⟨fun wh pins s sg H Q I q => h.run wh pins s sg H Q I (f sg H Q q)⟩
theorem pa_imp {X : Cx} {e : List Expr} {t t' : TA} (h : PA X e t) (f : ∀ sg H Q, t' sg H Q → t sg H Q) : PA X e t' := ⟨fun pos pins s sg H Q I q => h.run pos pins s sg H Q I (f sg H Q q)⟩
theorem ps_imp {X : Cx} {e : Stmt} {t t' : TS} (h : PS X e t) (f : ∀ D sg H, t' D sg H → t D sg H) : PS X e t' := ⟨fun pins s sg H D I q => h.run pins s sg H D I (f D sg H q)⟩
theorem pss_imp {X : Cx} {e : List Stmt} {t t' : TS} (h : PSs X e t) (f : ∀ D sg H, t' D sg H → t D sg H) : PSs X e t' := ⟨fun pins s sg H D I q => h.run pins s sg H D I (f D sg H q)⟩

/-! ### expressions -/
def cst (u : U) : DE := fun _ st => .ok u st
def var (i : Nat) : DE := fun env st => match env[i]? with
  | some (.val u) => .ok u st
  | _ => .bad
/-- .. where it is but read -/
def peek (i : Nat) : DE := fun env st => match env[i]? with
  | some (.val u) => .ok u st
  | some (.own us) => .ok (.lst us) st
  | _ => .bad
def bin (g : U → U → Option U) (a b : DE) : DE := fun env st => (a env st).bind fun u st1 => (b env st1).bind fun v st2 => Rs.of (g u v) st2
def anil : DA := fun _ st => .ok [] st
def acons (a : DE) (b : DA) : DA := fun env st => (a env st).bind fun u st1 => (b env st1).bind fun us st2 => .ok (u :: us) st2
def appN (g : List U → Option U) (a : DA) : DE := fun env st => (a env st).bind fun us st1 => Rs.of (g us) st1
def appU (g : List U → Store → Rs U) (a : DA) : DE := fun env st => (a env st).bind fun us st1 => g us st1
def tst (a : DE) : DT := fun env st => (a env st).bind fun u st1 => match u with
  | .bl b => .ok b st1
  | _ => .bad
def andT (a b : DT) : DT := fun env st => (a env st).bind fun c st1 => if c = true then b env st1 else .ok false st1
def orT (a b : DT) : DT := fun env st => (a env st).bind fun c st1 => if c = true then .ok true st1 else b env st1
def notT (a : DT) : DT := fun env st => (a env st).bind fun c st1 => .ok (!c) st1
/-- a test's answer as a value -/
def ofT (a : DT) : DE := fun env st => (a env st).bind fun c st1 => .ok (.bl c) st1
def chain (g h : U → U → Option U) (a b c : DE) : DE := fun env st => (a env st).bind fun u st1 => (b env st1).bind fun v st2 => match g u v with
  | some (.bl k) => if k = true then (c env st2).bind fun w st3 => Rs.of (h v w) st3 else .ok (.bl false) st2
  | _ => .bad
end D
namespace D
open PySem L2
section
variable {X : Cx} {xs : XS} {wx : WX} {pos : Pos}

theorem d_cst {e : Expr} {v : V} {u : U} (h : PE X e (tC v)) (r : ∀ G io H, Rep X.K (Wf G io) io H u v) : PE X e (tD X.K xs wx (cst u)) := pe_imp h fun sg H Q q => by
  obtain ⟨G, io, st, env, ok, er, w⟩ := q
  exact w.here ok v (r _ _ _)
theorem d_int {i j} : PE X (.Constant (.int i) j pos) (tD X.K xs wx (cst (.int i))) := d_cst pe_int fun _ _ _ => by unfold Rep; rfl
theorem d_bl {i j} : PE X (.Constant (.bool i) j pos) (tD X.K xs wx (cst (.bl i))) := d_cst pe_bl fun _ _ _ => by unfold Rep; rfl
theorem d_non {j} : PE X (.Constant .none j pos) (tD X.K xs wx (cst .non)) := d_cst pe_non fun _ _ _ => by unfold Rep; rfl
theorem d_str {i j} : PE X (.Constant (.str i) j pos) (tD X.K xs wx (cst (.str i))) := d_cst pe_str fun _ _ _ => by unfold Rep; rfl
theorem Rs.of_bad {A : Type} {r : Rs A} {K G io H R XR} (h : Wants (A := A) K G io H R XR r) : r ≠ .bad := fun e => by rw [e] at h; exact h

theorem d_var (i : Nat) {x : Str} (hN : X.N[i]? = some x) (hv : Vis X.env.scope x) (hd : (x == ("__debug__" : Str)) = false := by decide) (hcd : (x == ("__classdict__" : Str)) = false := by decide) : PE X (.Name x pos) (tD X.K xs wx (var i)) :=
  pe_imp (pe_var (i := i) hN hv hd hcd) fun sg H Q q => by
    obtain ⟨G, io, st, env, ok, er, w⟩ := q
    unfold var at w
    split at w
    · rename_i u e
      have hi : i < sg.length := by rw [← er.len]; exact (List.getElem?_eq_some_iff.mp e).1
      obtain ⟨v, e1, r⟩ := er.sl i _ _ e (List.getElem?_eq_getElem hi)
      exact ⟨v, (List.getElem?_eq_getElem hi).trans (congrArg some e1), w.here ok v r⟩
    · exact w.elim

/-! ### operators: pure ones by values -/
def P2 (K : PySem.W.Frag) (g : U → U → Option U) : R2 := fun x y H Q => ∃ G io st u1 u2 u, Ok K G io st H ∧ Rep K (Wf G io) io H u1 x ∧ Rep K (Wf G io) io H u2 y ∧ g u1 u2 = some u ∧
  ∀ v H', Same H H' → Rep K (Wf G io) io H' u v → Q v H'
def PN (K : PySem.W.Frag) (g : List U → Option U) : List V → Hp → VK → Prop := fun vs H Q => ∃ G io st us u, Ok K G io st H ∧ Reps K (Wf G io) io H us vs ∧ g us = some u ∧
  ∀ v H', Same H H' → Rep K (Wf G io) io H' u v → Q v H'
def P1 (K : PySem.W.Frag) (g : U → Option U) : V → Hp → VK → Prop := fun x H Q => ∃ G io st u1 u, Ok K G io st H ∧ Rep K (Wf G io) io H u1 x ∧ g u1 = some u ∧
  ∀ v H', Same H H' → Rep K (Wf G io) io H' u v → Q v H'

theorem Wants.pure {A : Type} {K G io H} {R : Store → List Addr → Hp → A → Prop} {XR} {o : Option A} {st : Store} (w : Wants K G io H R XR (Rs.of o st)) : ∃ a, o = some a ∧ Wants K G io H R XR (.ok a st) := by
  cases o with
  | none => exact w.elim
  | some a => exact ⟨a, rfl, w⟩
theorem bin_read {g : U → U → Option U} {fa fb : DE} {sg : L2.St} {H : Hp} {Q : VK} (h : tD X.K xs wx (bin g fa fb) sg H Q) : tOp (P2 X.K g) (tD X.K xs wx fa) (tD X.K xs wx fb) sg H Q := by
  obtain ⟨G, io, st, env, ok, er, w⟩ := h
  refine ⟨G, io, st, env, ok, er, w.bind.impR fun st1 io1 H1 u ok1 e1 w1 v rv => ?_⟩
  refine ⟨G, io1, st1, env, ok1, er.ext ok.dj e1, w1.bind.impR fun st2 io2 H2 u2 ok2 e2 w2 v2 rv2 => ?_⟩
  obtain ⟨a, ha, w3⟩ := w2.pure
  exact ⟨G, io2, st2, u, u2, a, ok2, rv.ext e2, rv2, ha, fun v' H' s r => w3.hereS ok2 s v' r⟩
theorem d_bin {op : Operator} {g : U → U → Option U} {a b : Expr} {fa fb : DE} (ho : OpR X (binaryOp op) (P2 X.K g)) (ha : PE X a (tD X.K xs wx fa)) (hb : PE X b (tD X.K xs wx fb)) : PE X (.BinOp a op b pos) (tD X.K xs wx (bin g fa fb)) :=
  pe_imp (pe_op ho ha hb) fun _ _ _ h => bin_read h
theorem d_cmp {op : CmpOp} {g : U → U → Option U} {a b : Expr} {fa fb : DE} (ho : OpR X (compareOp op) (P2 X.K g)) (ha : PE X a (tD X.K xs wx fa)) (hb : PE X b (tD X.K xs wx fb)) (hm : behindInMarks op b = false := by first | exact nomark _ | rfl) : PE X (.Compare a [op] [b] pos) (tD X.K xs wx (bin g fa fb)) :=
  pe_imp (pe_cmpR ho ha hb hm) fun _ _ _ h => bin_read h
theorem tst_read {f : DE} {t : TE} {sg : L2.St} {H : Hp} {Q : Bool → Hp → Prop} (h : tDT X.K xs wx (tst f) sg H Q) : tD X.K xs wx f sg H (fun x H1 => ∃ k, x = .bl k ∧ Q k H1) := by
  obtain ⟨G, io, st, env, ok, er, w⟩ := h
  refine ⟨G, io, st, env, ok, er, w.bind.impR fun st1 io1 H1 u ok1 e1 w1 v rv => ?_⟩
  cases u with
  | bl b => exact ⟨b, by unfold Rep at rv; exact rv, w1.here ok1⟩
  | _ => exact w1.elim
/-- a comparison as a test -/
theorem t_cmp {op : CmpOp} {g : U → U → Option U} {a b : Expr} {fa fb : DE} (ho : OpR X (compareOp op) (P2 X.K g)) (ha : PE X a (tD X.K xs wx fa)) (hb : PE X b (tD X.K xs wx fb)) (hm : behindInMarks op b = false := by first | exact nomark _ | rfl) :
    PT X (.Compare a [op] [b] pos) (tDT X.K xs wx (tst (bin g fa fb))) := pt_imp (pt_cmpR ho ha hb hm) fun sg H Q h => by
  obtain ⟨G, io, st, env, ok, er, w⟩ := h
  refine bin_read (Q := fun x H1 => ∃ k, x = .bl k ∧ Q k H1) ?_
  exact tst_read (t := tVar 0) ⟨G, io, st, env, ok, er, w⟩
theorem chain_read {g h : U → U → Option U} {fa fb fc : DE} {sg : L2.St} {H : Hp} {Q : VK} (hh : tD X.K xs wx (chain g h fa fb fc) sg H Q) : tChain (P2 X.K g) (P2 X.K h) (tD X.K xs wx fa) (tD X.K xs wx fb) (tD X.K xs wx fc) sg H Q := by
  obtain ⟨G, io, st, env, ok, er, w⟩ := hh
  refine ⟨G, io, st, env, ok, er, w.bind.impR fun st1 io1 H1 u ok1 e1 w1 v rv => ?_⟩
  refine ⟨G, io1, st1, env, ok1, er.ext ok.dj e1, w1.bind.impR fun st2 io2 H2 u2 ok2 e2 w2 v2 rv2 => ?_⟩
  have er2 := (er.ext ok.dj e1).ext ok1.dj e2
  split at w2
  · rename_i k eg
    refine ⟨G, io2, st2, u, u2, .bl k, ok2, rv.ext e2, rv2, eg, fun z H3 s3 r3 => ⟨k, by unfold Rep at r3; exact r3, ?_⟩⟩
    have e3 : Ext io2 H2 io2 H3 := Ext.same s3
    cases k with
    | true =>
      rw [if_pos rfl] at w2 ⊢
      refine ⟨G, io2, st2, env, ok2.same s3, er2.ext ok2.dj e3, (w2.later e3).bind.impR fun st4 io4 H4 u4 ok4 e4 w4 v4 rv4 => ?_⟩
      obtain ⟨a, ha, w5⟩ := w4.pure
      exact ⟨G, io4, st4, u2, u4, a, ok4, (rv2.ext e3).ext e4, rv4, ha, fun v' H' s r => w5.hereS ok4 s v' r⟩
    | false =>
      rw [if_neg Bool.false_ne_true] at w2 ⊢
      exact w2.hereS ok2 s3 _ (by unfold Rep; rfl)
  · exact w2.elim
theorem d_chain {op op' : CmpOp} {g h : U → U → Option U} {a b c : Expr} {fa fb fc : DE} (ho : OpR X (compareOp op) (P2 X.K g)) (ho' : OpR X (compareOp op') (P2 X.K h)) (ha : PE X a (tD X.K xs wx fa)) (hb : PE X b (tD X.K xs wx fb)) (hc : PE X c (tD X.K xs wx fc))
    (hm : lastMarks [op, op'] [b, c] = false := by with_unfolding_all rfl) : PE X (.Compare a [op, op'] [b, c] pos) (tD X.K xs wx (chain g h fa fb fc)) := pe_imp (pe_chain ho ho' ha hb hc hm) fun _ _ _ h => chain_read h
theorem t_chain {op op' : CmpOp} {g h : U → U → Option U} {a b c : Expr} {fa fb fc : DE} (ho : OpR X (compareOp op) (P2 X.K g)) (ho' : OpR X (compareOp op') (P2 X.K h)) (ha : PE X a (tD X.K xs wx fa)) (hb : PE X b (tD X.K xs wx fb)) (hc : PE X c (tD X.K xs wx fc))
    (hm : lastMarks [op, op'] [b, c] = false := by with_unfolding_all rfl) : PT X (.Compare a [op, op'] [b, c] pos) (tDT X.K xs wx (tst (chain g h fa fb fc))) := pt_imp (pt_chain ho ho' ha hb hc hm) fun sg H Q h => chain_read (tst_read (t := tVar 0) h)
/-- another expression as a test -/
theorem t_val {e : Expr} {f : DE} (h : PE X e (tD X.K xs wx f)) (he : ∀ whole, isTrue e X.env whole = (do let v ← whole; standAt e.pos; holding [v] (truthy v)) := by intro _; rfl) : PT X e (tDT X.K xs wx (tst f)) :=
  pt_imp (pt_val h he) fun sg H Q h => tst_read (t := tVar 0) h
theorem t_not {e : Expr} {f : DT} (h : PT X e (tDT X.K xs wx f)) : PT X (.UnaryOp .Not e pos) (tDT X.K xs wx (notT f)) := pt_imp (pt_not h) fun sg H Q h => by
  obtain ⟨G, io, st, env, ok, er, w⟩ := h
  exact ⟨G, io, st, env, ok, er, w.bind.impR fun st1 io1 H1 u ok1 e1 w1 => w1.here ok1⟩
variable {a b : Expr} {rest : List Expr}
theorem w_and1 {f : DT} (ha : PT X a (tDT X.K xs wx f)) : PW X (.BoolOp .And [a] pos) (tDT X.K xs wx f) := pw_and1 ha
theorem w_or1 {f : DT} (ha : PT X a (tDT X.K xs wx f)) : PW X (.BoolOp .Or [a] pos) (tDT X.K xs wx f) := pw_or1 ha
theorem w_and {f g : DT} (ha : PT X a (tDT X.K xs wx f)) (hb : PW X (.BoolOp .And (b :: rest) pos) (tDT X.K xs wx g)) : PW X (.BoolOp .And (a :: b :: rest) pos) (tDT X.K xs wx (andT f g)) := pw_imp (pw_and ha hb) fun sg H Q h => by
  obtain ⟨G, io, st, env, ok, er, w⟩ := h
  refine ⟨G, io, st, env, ok, er, w.bind.impR fun st1 io1 H1 c ok1 e1 w1 => ?_⟩
  cases c with
  | true => exact ⟨G, io1, st1, env, ok1, er.ext ok.dj e1, w1⟩
  | false => exact Wants.here (K := X.K) (G := G) (io := io1) (a := false) w1 ok1
theorem w_or {f g : DT} (ha : PT X a (tDT X.K xs wx f)) (hb : PW X (.BoolOp .Or (b :: rest) pos) (tDT X.K xs wx g)) : PW X (.BoolOp .Or (a :: b :: rest) pos) (tDT X.K xs wx (orT f g)) := pw_imp (pw_or ha hb) fun sg H Q h => by
  obtain ⟨G, io, st, env, ok, er, w⟩ := h
  refine ⟨G, io, st, env, ok, er, w.bind.impR fun st1 io1 H1 c ok1 e1 w1 => ?_⟩
  cases c with
  | false => exact ⟨G, io1, st1, env, ok1, er.ext ok.dj e1, w1⟩
  | true => exact Wants.here (K := X.K) (G := G) (io := io1) (a := true) w1 ok1
/-- and, or as values, of truths -/
def andV (a b : DE) : DE := fun env st => (a env st).bind fun u st1 => match u with
  | .bl c => if c = true then b env st1 else .ok (.bl false) st1
  | _ => .bad
def orV (a b : DE) : DE := fun env st => (a env st).bind fun u st1 => match u with
  | .bl c => if c = true then .ok (.bl true) st1 else b env st1
  | _ => .bad
def notV (a : DE) : DE := fun env st => (a env st).bind fun u st1 => match u with
  | .bl c => .ok (.bl (!c)) st1
  | _ => .bad
theorem d_one {op} {f : DE} (h : PE X a (tD X.K xs wx f)) : PE X (.BoolOp op [a] pos) (tD X.K xs wx f) := pe_one h
theorem d_and {f g : DE} (ha : PE X a (tD X.K xs wx f)) (hb : PE X (.BoolOp .And (b :: rest) pos) (tD X.K xs wx g)) : PE X (.BoolOp .And (a :: b :: rest) pos) (tD X.K xs wx (andV f g)) := pe_imp (pe_and ha hb) fun sg H Q h => by
  obtain ⟨G, io, st, env, ok, er, w⟩ := h
  refine ⟨G, io, st, env, ok, er, w.bind.impR fun st1 io1 H1 u ok1 e1 w1 v rv => ?_⟩
  cases u with
  | bl c =>
    unfold Rep at rv
    refine ⟨c, rv, ?_⟩
    cases c with
    | true => exact ⟨G, io1, st1, env, ok1, er.ext ok.dj e1, w1⟩
    | false => exact Wants.here (K := X.K) (G := G) (io := io1) (a := U.bl false) w1 ok1 _ (by unfold Rep; rfl)
  | _ => exact w1.elim
theorem d_or {f g : DE} (ha : PE X a (tD X.K xs wx f)) (hb : PE X (.BoolOp .Or (b :: rest) pos) (tD X.K xs wx g)) : PE X (.BoolOp .Or (a :: b :: rest) pos) (tD X.K xs wx (orV f g)) := pe_imp (pe_or ha hb) fun sg H Q h => by
  obtain ⟨G, io, st, env, ok, er, w⟩ := h
  refine ⟨G, io, st, env, ok, er, w.bind.impR fun st1 io1 H1 u ok1 e1 w1 v rv => ?_⟩
  cases u with
  | bl c =>
    unfold Rep at rv
    refine ⟨c, rv, ?_⟩
    cases c with
    | false => exact ⟨G, io1, st1, env, ok1, er.ext ok.dj e1, w1⟩
    | true => exact Wants.here (K := X.K) (G := G) (io := io1) (a := U.bl true) w1 ok1 _ (by unfold Rep; rfl)
  | _ => exact w1.elim
theorem d_not {f : DE} (ha : PE X a (tD X.K xs wx f)) : PE X (.UnaryOp .Not a pos) (tD X.K xs wx (notV f)) := pe_imp (pe_not ha) fun sg H Q h => by
  obtain ⟨G, io, st, env, ok, er, w⟩ := h
  refine ⟨G, io, st, env, ok, er, w.bind.impR fun st1 io1 H1 u ok1 e1 w1 v rv => ?_⟩
  cases u with
  | bl c =>
    unfold Rep at rv
    exact ⟨c, rv, Wants.here (K := X.K) (G := G) (io := io1) (a := U.bl (!c)) w1 ok1 _ (by unfold Rep; rfl)⟩
  | _ => exact w1.elim
def ifE (c : DT) (a b : DE) : DE := fun env st => (c env st).bind fun t st1 => if t = true then a env st1 else b env st1
theorem d_ifE {c : Expr} {t : DT} {f g : DE} (hc : PT X c (tDT X.K xs wx t)) (ha : PE X a (tD X.K xs wx f)) (hb : PE X b (tD X.K xs wx g)) : PE X (.IfExp c a b pos) (tD X.K xs wx (ifE t f g)) := pe_imp (pe_ifExp hc ha hb) fun sg H Q h => by
  obtain ⟨G, io, st, env, ok, er, w⟩ := h
  refine ⟨G, io, st, env, ok, er, w.bind.impR fun st1 io1 H1 c ok1 e1 w1 => ?_⟩
  cases c with
  | false => exact ⟨G, io1, st1, env, ok1, er.ext ok.dj e1, w1⟩
  | true => exact ⟨G, io1, st1, env, ok1, er.ext ok.dj e1, w1⟩
/-! ### arguments, displays, calls -/
theorem a_nil : PA X [] (tDA X.K xs wx anil) := pa_imp pa_nil fun sg H Q h => by
  obtain ⟨G, io, st, env, ok, er, w⟩ := h
  exact w.here ok _ .nil
theorem a_cons {e : Expr} {es : List Expr} {f : DE} {g : DA} (ha : PE X e (tD X.K xs wx f)) (hr : PA X es (tDA X.K xs wx g)) (hs : starEach (e :: es) X.env = (false, eval e X.env) :: starEach es X.env := by rfl) : PA X (e :: es) (tDA X.K xs wx (acons f g)) := pa_imp (pa_cons ha hr hs) fun sg H Q h => by
  obtain ⟨G, io, st, env, ok, er, w⟩ := h
  refine ⟨G, io, st, env, ok, er, w.bind.impR fun st1 io1 H1 u ok1 e1 w1 v rv => ?_⟩
  refine ⟨G, io1, st1, env, ok1, er.ext ok.dj e1, w1.bind.impR fun st2 io2 H2 us ok2 e2 w2 vs rvs => ?_⟩
  exact w2.here ok2 _ (.cons (rv.ext e2) rvs)
theorem args_read {f : DA} {g : List U → Option U} {sg : L2.St} {H : Hp} {Q : VK} (h : tD X.K xs wx (appN g f) sg H Q) : tDA X.K xs wx f sg H (fun vs H1 => PN X.K g vs H1 Q) := by
  obtain ⟨G, io, st, env, ok, er, w⟩ := h
  refine ⟨G, io, st, env, ok, er, w.bind.impR fun st1 io1 H1 us ok1 e1 w1 vs rvs => ?_⟩
  obtain ⟨u, hu, w2⟩ := w1.pure
  exact ⟨G, io1, st1, us, u, ok1, rvs, hu, fun v H' s r => w2.hereS ok1 s v r⟩
theorem same_upd {H : Hp} {p : Addr} {o : HO} (h : H p = none) : Same H (upd H p o) := fun b x e => by
  rw [upd_ne (ne_of_none e h)]
  exact e
/-- new plain data -/
theorem Ok.newT {K : PySem.W.Frag} {G : Addr → Prop} {io : List Addr} {st : Store} {H : Hp} (ok : Ok K G io st H) {p : Addr} (hp : H p = none) {us : List U} {vs : List V} (r : Reps K (Wf G io) io H us vs) : Rep K (Wf G io) io (upd H p (.tup vs)) (.tup us) (.ref p) := by
  unfold Rep
  exact ⟨p, vs, rfl, .inl ⟨.inl upd_same, ok.fresh hp⟩, r.ext (Ext.same (same_upd hp))⟩
theorem Ok.newL {K : PySem.W.Frag} {G : Addr → Prop} {io : List Addr} {st : Store} {H : Hp} (ok : Ok K G io st H) {p : Addr} (hp : H p = none) {us : List U} {vs : List V} (r : Reps K (Wf G io) io H us vs) : Rep K (Wf G io) io (upd H p (.lst vs)) (.lst us) (.ref p) := by
  unfold Rep
  exact ⟨p, vs, rfl, ⟨upd_same, ok.fresh hp⟩, r.ext (Ext.same (same_upd hp))⟩
def szT (us : List U) : Option U := if us.length ≤ sizeLine then some (.tup us) else none
def szL (us : List U) : Option U := if us.length ≤ sizeLine then some (.lst us) else none
theorem d_tup {es : List Expr} {x1} {f : DA} (h : PA X es (tDA X.K xs wx f)) : PE X (.Tuple es x1 pos) (tD X.K xs wx (appN szT f)) := pe_imp (pe_tup h) fun sg H Q q => by
  obtain ⟨G, io, st, env, ok, er, w⟩ := args_read q
  refine ⟨G, io, st, env, ok, er, w.impR fun st1 io1 H1 us ok1 e1 w1 vs rvs => ?_⟩
  obtain ⟨G', io', st', us', u, ok', rvs', hu, fin⟩ := w1 vs rvs
  unfold szT at hu
  split at hu
  · rename_i hz
    cases hu
    refine ⟨by rw [← rvs'.length]; exact hz, fun p hp => fin _ _ (same_upd hp) (ok'.newT hp rvs')⟩
  · cases hu
theorem d_lst {es : List Expr} {f : DA} (h : PA X es (tDA X.K xs wx f)) : PE X (.List es pos) (tD X.K xs wx (appN szL f)) := pe_imp (pe_lst h) fun sg H Q q => by
  obtain ⟨G, io, st, env, ok, er, w⟩ := args_read q
  refine ⟨G, io, st, env, ok, er, w.impR fun st1 io1 H1 us ok1 e1 w1 vs rvs => ?_⟩
  obtain ⟨G', io', st', us', u, ok', rvs', hu, fin⟩ := w1 vs rvs
  unfold szL at hu
  split at hu
  · rename_i hz
    cases hu
    refine ⟨by rw [← rvs'.length]; exact hz, fun p hp => fin _ _ (same_upd hp) (ok'.newL hp rvs')⟩
  · cases hu
theorem d_callB {id : String} {x : Str} {p : Pos} {e : Expr} {es : List Expr} {g : List U → Option U} {f : DA} (hc : CallR X (.builtin id) (PN X.K g)) (hg : Gl X x) (hm : X.mg x = none) (hv : bootBuiltins x = some (.builtin id)) (ha : PA X (e :: es) (tDA X.K xs wx f)) (hn : x ≠ "__name__" := by decide)
    (hdb : (x == ("__debug__" : Str)) = false := by decide) (he : starEach (e :: es) X.env = (false, eval e X.env) :: starEach es X.env := by rfl) (hpl : (backTo pos (starEach es X.env)).any (·.1) = false := by rfl) : PE X (.Call (.Name x p) (e :: es) [] pos) (tD X.K xs wx (appN g f)) :=
  pe_imp (pe_callB hc hg hm hv ha hn hdb he hpl) fun _ _ _ h => args_read h
theorem d_callT {T : String} {x : Str} {p : Pos} {e : Expr} {es : List Expr} {g : List U → Option U} {f : DA} (hc : CallR X (.type T) (PN X.K g)) (hg : Gl X x) (hm : X.mg x = none) (hv : bootBuiltins x = some (.type T)) (ha : PA X (e :: es) (tDA X.K xs wx f)) (hn : x ≠ "__name__" := by decide)
    (hdb : (x == ("__debug__" : Str)) = false := by decide) (he : starEach (e :: es) X.env = (false, eval e X.env) :: starEach es X.env := by rfl) (hpl : (backTo pos (starEach es X.env)).any (·.1) = false := by rfl) : PE X (.Call (.Name x p) (e :: es) [] pos) (tD X.K xs wx (appN g f)) :=
  pe_imp (pe_callTy hc hg hm hv ha hn hdb he hpl) fun _ _ _ h => args_read h
/-! ### a def's promise -/
def spD (K : PySem.W.Frag) (xs : XS) (n : Nat) (g : List U → Store → Rs U) : Sp := fun vs H Q E => vs.length = n ∧ ∃ G io st us, Ok K G io st H ∧ Reps K (Wf G io) io H us vs ∧
  Wants K G io H (fun _ io' H' u => ∀ v, Rep K (Wf G io') io' H' u v → Q v H') (fun c us _ _ H' => ∀ cls d, xs c us cls d H' → E cls d H') (g us st)
theorem d_call {k : Nat} {f : Addr} {fd : FuncData} {ps : List Str} {n : Nat} {x : Str} {p : Pos} {e : Expr} {es : List Expr} {g : List U → Store → Rs U} {fa : DA} (tk : Takes X wx) (F : FnOk X.prog X.w X.K X.mg X.base (L2.CX X.prog X.w) k f fd ps (spD X.K xs n g)) (hr : Room k X.A) (hg : Gl X x) (hm : X.mg x = some (.ref f))
    (hk : PySem.W.keepIn X.K (.ref f) = true) (hb : Binds X.K fd ps []) (hgn : ∀ us st, us.length ≠ n → g us st = .bad) (ha : PA X (e :: es) (tDA X.K xs wx fa)) (hdb : (x == ("__debug__" : Str)) = false := by decide)
    (he : starEach (e :: es) X.env = (false, eval e X.env) :: starEach es X.env := by rfl) (hpl : (backTo pos (starEach es X.env)).any (·.1) = false := by rfl) : PE X (.Call (.Name x p) (e :: es) [] pos) (tD X.K xs wx (appU g fa)) :=
  pe_imp (pe_callSD (E := WE wx) (dvs := []) F hr hg hm hk hb .nil (fun s => passAt tk s) ha hdb he hpl) fun sg H Q h => by
    obtain ⟨G, io, st, env, ok, er, w⟩ := h
    refine ⟨G, io, st, env, ok, er, w.bind.impR fun st1 io1 H1 us ok1 e1 w1 vs rvs => ?_⟩
    have hn : us.length = n := Decidable.byContradiction fun z => by rw [hgn us st1 z] at w1; exact w1
    exact ⟨by rw [List.append_nil, ← rvs.length]; exact hn, G, io1, st1, us, ok1, by rw [List.append_nil]; exact rvs, w1⟩
end
end D
namespace D
open PySem L2
/-! ### statements -/
inductive Out where
  | nx (env : Env) (st : Store) | rt (u : U) (st : Store) | bk (env : Env) (st : Store) | ct (env : Env) (st : Store) | ex (c : Str) (us : List (Str × U)) (env : Env) (st : Store) | bad
abbrev DS := Env → Store → Out
def Rs.out {A : Type} (r : Rs A) (env : Env) (k : A → Store → Out) : Out := match r with
  | .ok a st => k a st
  | .ex c us st => .ex c us env st
  | .bad => .bad
def Out.seq (o : Out) (k : Env → Store → Out) : Out := match o with
  | .nx env st => k env st
  | o => o
/-- what the frame owns -/
def Ow (env : Env) (sg : L2.St) (a : Addr) : Prop := ∃ (i : Nat) (us : List U), env[i]? = some (.own us) ∧ sg[i]? = some (some (.ref a))
def Gs (F : Addr → Prop) (env : Env) (sg : L2.St) : Addr → Prop := fun a => F a ∨ Ow env sg a
structure Fr (K : PySem.W.Frag) (F : Addr → Prop) (io : List Addr) (st : Store) (env : Env) (sg : L2.St) (H : Hp) : Prop where
  ok : Ok K (Gs F env sg) io st H
  er : EnvRep K (Gs F env sg) io H env sg
  nF : ∀ a, Ow env sg a → ¬ F a
  dd : ∀ (i j : Nat) (a : Addr) (us us' : List U), env[i]? = some (.own us) → env[j]? = some (.own us') → sg[i]? = some (some (.ref a)) → sg[j]? = some (some (.ref a)) → i = j
structure ExtO (io : List Addr) (H : Hp) (O : Addr → Prop) (io' : List Addr) (H' : Hp) (O' : Addr → Prop) : Prop where
  pre : ∃ more, io' = io ++ more ∧ ∀ a ∈ more, H a = none ∨ O a
  keep : ∀ a o, a ∉ io → ¬ O a → H a = some o → H' a = some o
  stay : ∀ a o, H a = some o → ∃ o', H' a = some o'
  own : ∀ a, O' a → O a ∨ H a = none
section
variable {K : PySem.W.Frag} {F : Addr → Prop} {io io1 io2 io' : List Addr} {st st' : Store} {env env' : Env} {sg sg' : L2.St} {H H1 H2 H' : Hp} {O O1 O2 : Addr → Prop}
theorem Ext.o (e : Ext io H io' H') (O : Addr → Prop) : ExtO io H O io' H' O := ⟨let ⟨m, q1, q2⟩ := e.pre; ⟨m, q1, fun a h => .inl (q2 a h)⟩, fun a o h _ q => e.keep a o h q, e.stay, fun _ h => .inl h⟩
theorem ExtO.refl (io : List Addr) (H : Hp) (O : Addr → Prop) : ExtO io H O io H O := (Ext.refl io H).o O
theorem ExtO.trans (a : ExtO io H O io1 H1 O1) (b : ExtO io1 H1 O1 io2 H2 O2) : ExtO io H O io2 H2 O2 := by
  obtain ⟨m1, e1, f1⟩ := a.pre
  obtain ⟨m2, e2, f2⟩ := b.pre
  have back : ∀ x, H1 x = none → H x = none := fun x h => by
    cases q : H x with
    | none => rfl
    | some o =>
      obtain ⟨o', e⟩ := a.stay x o q
      rw [e] at h; cases h
  refine ⟨⟨m1 ++ m2, by rw [e2, e1, List.append_assoc], fun x hx => ?_⟩, fun x o hx hO h => ?_, fun x o h => let ⟨o1, e1⟩ := a.stay x o h; b.stay x o1 e1, fun x h => ?_⟩
  · rcases List.mem_append.mp hx with h | h
    · exact f1 x h
    · rcases f2 x h with z | z
      · exact .inl (back x z)
      · exact (a.own x z).symm
  · refine b.keep x o (fun z => ?_) (fun z => ?_) (a.keep x o hx hO h)
    · rw [e1] at z
      rcases List.mem_append.mp z with z | z
      · exact hx z
      · rcases f1 x z with y | y
        · rw [y] at h; cases h
        · exact hO y
    · rcases a.own x z with z | z
      · exact hO z
      · rw [z] at h; cases h
  · rcases b.own x h with h | h
    · exact a.own x h
    · exact .inr (back x h)
/-- plain data under a statement -/
theorem ExtO.mono (e : ExtO io H (Ow env sg) io' H' (Ow env' sg')) : Mono (Gs F env sg) io H (Gs F env' sg') io' H' := by
  obtain ⟨m, rfl, f⟩ := e.pre
  refine ⟨⟨m, rfl⟩, fun a o n h => ⟨e.keep a o (fun z => n (.inr z)) (fun z => n (.inl (.inr z))) h, ?_⟩⟩
  rintro ((z | z) | z)
  · exact n (.inl (.inl z))
  · rcases e.own a z with z | z
    · exact n (.inl (.inr z))
    · rw [z] at h; cases h
  · rcases List.mem_append.mp z with z | z
    · exact n (.inr z)
    · rcases f a z with y | y
      · rw [y] at h; cases h
      · exact n (.inl (.inr y))
theorem Ok.mono {G G' : Addr → Prop} (ok : Ok K G io st H) (sub : ∀ a, G' a → G a) : Ok K G' io st H := by
  have m : Mono G io H G' io H := ⟨⟨[], by simp⟩, fun a o n h => ⟨h, fun z => n (z.imp (sub a) id)⟩⟩
  refine ⟨ok.nd, fun a h z => ok.dj a h (sub a z), fun a h => ok.trk a (h.imp (sub a) id), ok.len, fun n ob a e1 e2 => ?_⟩
  have q := ok.obs n ob a e1 e2
  cases ob with
  | lst us => obtain ⟨vs, q1, q2⟩ := q; exact ⟨vs, q1, q2.mono m⟩
  | dct _ _ => exact q
  | ins _ _ => exact q
  | gone => trivial
theorem Fr.ext (f : Fr K F io st env sg H) (ok : Ok K (Gs F env sg) io' st' H') (e : Ext io H io' H') : Fr K F io' st' env sg H' := ⟨ok, f.er.ext f.ok.dj e, f.nF, f.dd⟩
theorem ow_set_val {i : Nat} {u : U} {o : Option V} {a : Addr} (h : Ow (env.set i (.val u)) (sg.set i o) a) : Ow env sg a := by
  obtain ⟨j, us, h1, h2⟩ := h
  by_cases hj : i = j
  · subst hj
    by_cases hl : i < env.length
    · rw [List.getElem?_set_self hl] at h1; cases h1
    · rw [List.getElem?_eq_none (by simpa using Nat.le_of_not_lt hl)] at h1; cases h1
  · rw [List.getElem?_set_ne hj] at h1 h2
    exact ⟨j, us, h1, h2⟩
theorem Fr.setVal (f : Fr K F io st env sg H) {i : Nat} {u : U} {v : V} (r : Rep K (Wf (Gs F env sg) io) io H u v) :
    Fr K F io st (env.set i (.val u)) (sg.set i (some v)) H ∧ ExtO io H (Ow env sg) io H (Ow (env.set i (.val u)) (sg.set i (some v))) := by
  have sub : ∀ a, Gs F (env.set i (.val u)) (sg.set i (some v)) a → Gs F env sg a := fun a h => h.imp id ow_set_val
  have ex : ExtO io H (Ow env sg) io H (Ow (env.set i (.val u)) (sg.set i (some v))) := ⟨⟨[], by simp, fun _ h => nomatch h⟩, fun _ _ _ _ h => h, fun _ o h => ⟨o, h⟩, fun a h => .inl (ow_set_val h)⟩
  have m := ex.mono (F := F)
  refine ⟨⟨f.ok.mono sub, ⟨by simp [f.er.len], fun j s o h1 h2 => ?_⟩, fun a h => f.nF a (ow_set_val h), fun j k a us us' h1 h2 h3 h4 => ?_⟩, ex⟩
  · by_cases hj : i = j
    · subst hj
      by_cases hl : i < env.length
      · rw [List.getElem?_set_self hl] at h1
        rw [List.getElem?_set_self (by rw [← f.er.len]; exact hl)] at h2
        cases h1; cases h2
        exact ⟨v, rfl, r.mono m⟩
      · rw [List.getElem?_eq_none (by simpa using Nat.le_of_not_lt hl)] at h1; cases h1
    · have g1 := h1; have g2 := h2
      rw [List.getElem?_set_ne hj] at h1 h2
      have q := f.er.sl j s o h1 h2
      cases s with
      | un => trivial
      | val u' => obtain ⟨v', q1, q2⟩ := q; exact ⟨v', q1, q2.mono m⟩
      | own us =>
        obtain ⟨a, vs, q1, q2, q3, q4⟩ := q
        subst q1
        exact ⟨a, vs, rfl, .inr ⟨j, us, g1, g2⟩, q3, q4.mono m⟩
  · have nj : ∀ (k : Nat) (us : List U), (env.set i (.val u))[k]? = some (.own us) → i ≠ k := fun k us h e => by
      subst e
      by_cases hl : i < env.length
      · rw [List.getElem?_set_self hl] at h; cases h
      · rw [List.getElem?_eq_none (by simpa using Nat.le_of_not_lt hl)] at h; cases h
    have n1 := nj j us h1
    have n2 := nj k us' h2
    rw [List.getElem?_set_ne n1] at h1 h3
    rw [List.getElem?_set_ne n2] at h2 h4
    exact f.dd j k a us us' h1 h2 h3 h4
/-- a slot gets a list of its own, at a place that nothing else knows -/
theorem Fr.setOwn (f : Fr K F io st env sg H) {i : Nat} {us : List U} {vs : List V} {a : Addr} (na : H a = none) (r : Reps K (Wf (Gs F env sg) io) io H us vs) (hi : i < env.length) :
    Fr K F io st (env.set i (.own us)) (sg.set i (some (.ref a))) (upd H a (.lst vs)) ∧ ExtO io H (Ow env sg) io (upd H a (.lst vs)) (Ow (env.set i (.own us)) (sg.set i (some (.ref a)))) := by
  have hi' : i < sg.length := by rw [← f.er.len]; exact hi
  have ow : ∀ b, Ow (env.set i (.own us)) (sg.set i (some (.ref a))) b → b = a ∨ Ow env sg b := fun b h => by
    obtain ⟨j, us', h1, h2⟩ := h
    by_cases hj : i = j
    · subst hj
      rw [List.getElem?_set_self hi'] at h2
      cases h2; exact .inl rfl
    · rw [List.getElem?_set_ne hj] at h1 h2
      exact .inr ⟨j, us', h1, h2⟩
  have owa : Ow (env.set i (.own us)) (sg.set i (some (.ref a))) a := ⟨i, us, List.getElem?_set_self hi, List.getElem?_set_self hi'⟩
  have nW : ¬ Wf (Gs F env sg) io a := f.ok.fresh na
  have ne : ∀ b o, H b = some o → b ≠ a := fun b o h => ne_of_none h na
  have s : Same H (upd H a (.lst vs)) := same_upd na
  have ex : ExtO io H (Ow env sg) io (upd H a (.lst vs)) (Ow (env.set i (.own us)) (sg.set i (some (.ref a)))) := ⟨⟨[], by simp, fun _ h => nomatch h⟩, fun b o _ _ h => s b o h, fun b o h => ⟨o, s b o h⟩, fun b h => (ow b h).elim (fun e => .inr (e ▸ na)) .inl⟩
  have m := ex.mono (F := F)
  refine ⟨⟨⟨f.ok.nd, fun b hb z => ?_, fun b h => ?_, f.ok.len, fun n ob b e1 e2 => ?_⟩, ⟨by simp [f.er.len], fun j sl o h1 h2 => ?_⟩, fun b h z => ?_, fun j k b us1 us2 h1 h2 h3 h4 => ?_⟩, ex⟩
  · rcases z with z | z
    · exact f.ok.dj b hb (.inl z)
    · rcases ow b z with e | z
      · subst e; exact nW (.inr hb)
      · exact f.ok.dj b hb (.inr z)
  · rcases h with (z | z) | z
    · obtain ⟨o, e, x⟩ := f.ok.trk b (.inl (.inl z)); exact ⟨o, s b o e, x⟩
    · rcases ow b z with e | z
      · subst e; exact ⟨_, upd_same, nx_lst⟩
      · obtain ⟨o, e, x⟩ := f.ok.trk b (.inl (.inr z)); exact ⟨o, s b o e, x⟩
    · obtain ⟨o, e, x⟩ := f.ok.trk b (.inr z); exact ⟨o, s b o e, x⟩
  · have q := f.ok.obs n ob b e1 e2
    cases ob with
    | lst us' => obtain ⟨vs', q1, q2⟩ := q; exact ⟨vs', s _ _ q1, q2.mono m⟩
    | dct _ _ => exact q
    | ins c fs => obtain ⟨C, d, q1, q2, q3⟩ := q; exact ⟨C, d, q1, s _ _ q2, q3.keep fun dd ws z => s _ _ z⟩
    | gone => trivial
  · by_cases hj : i = j
    · subst hj
      rw [List.getElem?_set_self hi] at h1
      rw [List.getElem?_set_self hi'] at h2
      cases h1; cases h2
      exact ⟨a, vs, rfl, .inr owa, upd_same, r.mono m⟩
    · have g1 := h1; have g2 := h2
      rw [List.getElem?_set_ne hj] at h1 h2
      have q := f.er.sl j sl o h1 h2
      cases sl with
      | un => trivial
      | val u' => obtain ⟨v', q1, q2⟩ := q; exact ⟨v', q1, q2.mono m⟩
      | own us' =>
        obtain ⟨b, vs', q1, q2, q3, q4⟩ := q
        subst q1
        exact ⟨b, vs', rfl, .inr ⟨j, us', g1, g2⟩, s _ _ q3, q4.mono m⟩
  · rcases ow b h with e | h
    · subst e; exact nW (.inl (.inl z))
    · exact f.nF b h z
  · have one : ∀ (j : Nat) (us1 : List U), (env.set i (.own us))[j]? = some (.own us1) → (sg.set i (some (.ref a)))[j]? = some (some (.ref b)) → (i = j ∧ b = a) ∨ (i ≠ j ∧ env[j]? = some (.own us1) ∧ sg[j]? = some (some (.ref b))) := fun j us1 h1 h3 => by
      by_cases hj : i = j
      · subst hj
        rw [List.getElem?_set_self hi'] at h3
        cases h3; exact .inl ⟨rfl, rfl⟩
      · rw [List.getElem?_set_ne hj] at h1 h3
        exact .inr ⟨hj, h1, h3⟩
    rcases one j us1 h1 h3 with ⟨e1, e2⟩ | ⟨_, p1, p2⟩
    · rcases one k us2 h2 h4 with ⟨e3, _⟩ | ⟨_, p1, p2⟩
      · exact e1.symm.trans e3
      · subst e2
        exact (nW (.inl (.inr ⟨k, us2, p1, p2⟩))).elim
    · rcases one k us2 h2 h4 with ⟨_, e2⟩ | ⟨_, p3, p4⟩
      · subst e2
        exact (nW (.inl (.inr ⟨j, us1, p1, p2⟩))).elim
      · exact f.dd j k b us1 us2 p1 p3 p2 p4
/-- a list of the frame's own turns -/
theorem Fr.turnOwn (f : Fr K F io st env sg H) {i : Nat} {us us' : List U} {vs' : List V} {a : Addr} (h1 : env[i]? = some (.own us)) (h2 : sg[i]? = some (some (.ref a))) (r : Reps K (Wf (Gs F env sg) io) io H us' vs') :
    Fr K F io st (env.set i (.own us')) sg (upd H a (.lst vs')) ∧ ExtO io H (Ow env sg) io (upd H a (.lst vs')) (Ow (env.set i (.own us')) sg) := by
  have hi : i < env.length := (List.getElem?_eq_some_iff.mp h1).1
  have oa : Ow env sg a := ⟨i, us, h1, h2⟩
  have ow : ∀ b, Ow (env.set i (.own us')) sg b ↔ Ow env sg b := fun b => by
    constructor
    · rintro ⟨j, w, h3, h4⟩
      by_cases hj : i = j
      · subst hj; exact ⟨i, us, h1, h4⟩
      · rw [List.getElem?_set_ne hj] at h3
        exact ⟨j, w, h3, h4⟩
    · rintro ⟨j, w, h3, h4⟩
      by_cases hj : i = j
      · subst hj; exact ⟨i, us', List.getElem?_set_self hi, h4⟩
      · exact ⟨j, w, by rw [List.getElem?_set_ne hj]; exact h3, h4⟩
  have keep : ∀ b o, b ≠ a → H b = some o → (upd H a (.lst vs')) b = some o := fun b o n h => by rw [upd_ne n]; exact h
  have ex : ExtO io H (Ow env sg) io (upd H a (.lst vs')) (Ow (env.set i (.own us')) sg) := ⟨⟨[], by simp, fun _ h => nomatch h⟩, fun b o _ n h => keep b o (fun e => n (e ▸ oa)) h, fun b o h => by
    by_cases e : b = a
    · subst e; exact ⟨_, upd_same⟩
    · exact ⟨o, keep b o e h⟩, fun b h => .inl ((ow b).mp h)⟩
  have m := ex.mono (F := F)
  have nio : a ∉ io := fun z => f.ok.dj a z (.inr oa)
  have nxa : ∀ (dd : Addr) (ws : List (Str × V)), H dd = some (.xd ws) → dd ≠ a := fun dd ws z e => by
    subst e
    obtain ⟨o, e1, x⟩ := f.ok.trk dd (.inl (.inr oa))
    rw [z] at e1; cases e1; exact x ws rfl
  refine ⟨⟨⟨f.ok.nd, fun b hb z => f.ok.dj b hb (z.imp id (ow b).mp), fun b h => ?_, f.ok.len, fun n ob b e1 e2 => ?_⟩, ⟨by simp [f.er.len], fun j sl o g1 g2 => ?_⟩, fun b h z => f.nF b ((ow b).mp h) z, fun j k b us1 us2 g1 g2 g3 g4 => ?_⟩, ex⟩
  · obtain ⟨o, e, x⟩ := f.ok.trk b (h.imp (fun z => z.imp id (ow b).mp) id)
    by_cases hb : b = a
    · subst hb; exact ⟨_, upd_same, nx_lst⟩
    · exact ⟨o, keep b o hb e, x⟩
  · have q := f.ok.obs n ob b e1 e2
    have nb : b ≠ a := fun e => nio (e ▸ List.mem_of_getElem? e2)
    cases ob with
    | lst us' => obtain ⟨vs', q1, q2⟩ := q; exact ⟨vs', keep _ _ nb q1, q2.mono m⟩
    | dct _ _ => exact q
    | ins c fs => obtain ⟨C, d, q1, q2, q3⟩ := q; exact ⟨C, d, q1, keep _ _ nb q2, q3.keep fun dd ws z => keep _ _ (nxa dd ws z) z⟩
    | gone => trivial
  · by_cases hj : i = j
    · subst hj
      rw [List.getElem?_set_self hi] at g1
      rw [h2] at g2
      cases g1; cases g2
      exact ⟨a, vs', rfl, .inr ((ow a).mpr oa), upd_same, r.mono m⟩
    · have g1' := g1
      rw [List.getElem?_set_ne hj] at g1
      have q := f.er.sl j sl o g1 g2
      cases sl with
      | un => trivial
      | val u' => obtain ⟨v', q1, q2⟩ := q; exact ⟨v', q1, q2.mono m⟩
      | own w =>
        obtain ⟨b, vs1, q1, q2, q3, q4⟩ := q
        subst q1
        have nb : b ≠ a := fun e => hj (f.dd i j a us w h1 g1 h2 (e ▸ g2))
        exact ⟨b, vs1, rfl, .inr ⟨j, w, g1', g2⟩, keep _ _ nb q3, q4.mono m⟩
  · have back : ∀ (j : Nat) (w : List U), (env.set i (.own us'))[j]? = some (.own w) → ∃ w', env[j]? = some (.own w') := fun j w h => by
      by_cases hj : i = j
      · subst hj; exact ⟨us, h1⟩
      · rw [List.getElem?_set_ne hj] at h; exact ⟨w, h⟩
    obtain ⟨w1, e1⟩ := back j us1 g1
    obtain ⟨w2, e2⟩ := back k us2 g2
    exact f.dd j k b w1 w2 e1 e2 g3 g4
end
/-- what is wanted behind a statement -/
def WantsS (K : PySem.W.Frag) (F : Addr → Prop) (io : List Addr) (H : Hp) (O : Addr → Prop) (D : Ends) (xs : XS) (wx : WX) : Out → Prop
  | .nx env' st' => ∀ io' sg' H', Fr K F io' st' env' sg' H' → ExtO io H O io' H' (Ow env' sg') → D.nx sg' H'
  | .bk env' st' => ∀ io' sg' H', Fr K F io' st' env' sg' H' → ExtO io H O io' H' (Ow env' sg') → D.bk sg' H'
  | .ct env' st' => ∀ io' sg' H', Fr K F io' st' env' sg' H' → ExtO io H O io' H' (Ow env' sg') → D.ct sg' H'
  | .rt u st' => ∀ io' H' v, Ok K F io' st' H' → ExtO io H O io' H' (fun _ => False) → Rep K (Wf F io') io' H' u v → D.rt v H'
  | .ex c us env' st' => ∀ io' sg' H', Fr K F io' st' env' sg' H' → ExtO io H O io' H' (Ow env' sg') → ∀ cls d, xs c us cls d H' → wx cls d sg' H'
  | .bad => False
def tDS (K : PySem.W.Frag) (xs : XS) (wx : WX) (f : DS) : TS := fun D sg H => ∃ F io st env, Fr K F io st env sg H ∧ WantsS K F io H (Ow env sg) D xs wx (f env st)
section
variable {K : PySem.W.Frag} {F : Addr → Prop} {io io1 : List Addr} {st : Store} {env env1 : Env} {sg : L2.St} {H H1 : Hp} {O O1 : Addr → Prop} {D : Ends} {xs : XS} {wx : WX}
theorem WantsS.later {o : Out} (h : WantsS K F io H O D xs wx o) (e : ExtO io H O io1 H1 O1) : WantsS K F io1 H1 O1 D xs wx o := by
  cases o with
  | nx env' st' => exact fun io' sg' H' f e' => h io' sg' H' f (e.trans e')
  | bk env' st' => exact fun io' sg' H' f e' => h io' sg' H' f (e.trans e')
  | ct env' st' => exact fun io' sg' H' f e' => h io' sg' H' f (e.trans e')
  | rt u st' => exact fun io' H' v f e' => h io' H' v f (e.trans e')
  | ex c us env' st' => exact fun io' sg' H' f e' => h io' sg' H' f (e.trans e')
  | bad => exact h
/-- an expression within a statement -/
theorem WantsS.expr {A : Type} {r : Rs A} {k : A → Store → Out} (f : Fr K F io st env sg H) (h : WantsS K F io H (Ow env sg) D xs wx (r.out env k)) :
    Wants K (Gs F env sg) io H (fun st1 io1 H1 a => Fr K F io1 st1 env sg H1 ∧ WantsS K F io1 H1 (Ow env sg) D xs wx (k a st1)) (XW xs wx sg) r := by
  cases r with
  | ok a st1 => exact fun io' H' ok e => ⟨f.ext ok e, WantsS.later h (e.o _)⟩
  | ex c us st1 => exact fun io' H' ok e => h io' sg H' (f.ext ok e) (e.o _)
  | bad => exact h
end
section
variable {X : Cx} {xs : XS} {wx : WX} {pos : Pos}
def sNil : DS := fun env st => .nx env st
def sSeq (f g : DS) : DS := fun env st => (f env st).seq g
theorem ss_nil : PSs X [] (tDS X.K xs wx sNil) := pss_imp pss_nil fun D sg H h => by
  obtain ⟨F, io, st, env, f, w⟩ := h
  exact w io sg H f (ExtO.refl _ _ _)
theorem ss_cons {s : Stmt} {rest : List Stmt} {f g : DS} (h1 : PS X s (tDS X.K xs wx f)) (h2 : PSs X rest (tDS X.K xs wx g)) : PSs X (s :: rest) (tDS X.K xs wx (sSeq f g)) := pss_imp (pss_cons h1 h2) fun D sg H h => by
  obtain ⟨F, io, st, env, fr, w⟩ := h
  refine ⟨F, io, st, env, fr, ?_⟩
  unfold sSeq at w
  cases q : f env st with
  | nx env' st' =>
    rw [q] at w
    exact fun io' sg' H' fr' e' => ⟨F, io', st', env', fr', WantsS.later w e'⟩
  | _ => rw [q] at w; exact w
def sExpr (f : DE) : DS := fun env st => (f env st).out env fun _ st1 => .nx env st1
theorem s_expr {e : Expr} {f : DE} (he : PE X e (tD X.K xs wx f)) (hs : swapsWith e none pos.line X.env = Pure.pure false := by rfl) : PS X (.Expr e pos) (tDS X.K xs wx (sExpr f)) := ps_imp (ps_expr he hs) fun D sg H h => by
  obtain ⟨F, io, st, env, fr, w⟩ := h
  refine ⟨Gs F env sg, io, st, env, fr.ok, fr.er, (WantsS.expr fr w).impR fun st1 io1 H1 a ok1 e1 q v rv => ?_⟩
  exact q.2 io1 sg H1 q.1 (ExtO.refl _ _ _)
def sRet (f : DE) : DS := fun env st => (f env st).out env fun u st1 => .rt u st1
theorem s_ret {e : Expr} {f : DE} (he : PE X e (tD X.K xs wx f)) : PS X (.Return (some e) pos) (tDS X.K xs wx (sRet f)) := ps_imp (ps_ret he) fun D sg H h => by
  obtain ⟨F, io, st, env, fr, w⟩ := h
  refine ⟨Gs F env sg, io, st, env, fr.ok, fr.er, (WantsS.expr fr w).impR fun st1 io1 H1 a ok1 e1 q v rv => ?_⟩
  have m : Mono (Gs F env sg) io1 H1 F io1 H1 := ⟨⟨[], by simp⟩, fun a o n h => ⟨h, fun z => n (z.imp .inl id)⟩⟩
  exact q.2 io1 H1 v (q.1.ok.mono fun _ => .inl) ⟨⟨[], by simp, fun _ h => nomatch h⟩, fun _ _ _ _ h => h, fun _ o h => ⟨o, h⟩, fun _ h => h.elim⟩ (rv.mono m)
def sRetN : DS := fun env st => .rt .non st
theorem s_retN : PS X (.Return none pos) (tDS X.K xs wx sRetN) := ps_imp ps_retN fun D sg H h => by
  obtain ⟨F, io, st, env, fr, w⟩ := h
  exact w io H .non (fr.ok.mono fun _ => .inl) ⟨⟨[], by simp, fun _ h => nomatch h⟩, fun _ _ _ _ h => h, fun _ o h => ⟨o, h⟩, fun _ h => h.elim⟩ (by unfold Rep; rfl)
def sIf (c : DT) (f g : DS) : DS := fun env st => (c env st).out env fun b st1 => if b = true then f env st1 else g env st1
theorem s_if {c : Expr} {a b : List Stmt} {t : DT} {f g : DS} (hc : PT X c (tDT X.K xs wx t)) (ha : PSs X a (tDS X.K xs wx f)) (hb : PSs X b (tDS X.K xs wx g)) : PS X (.If c a b pos) (tDS X.K xs wx (sIf t f g)) := ps_imp (ps_if hc ha hb) fun D sg H h => by
  obtain ⟨F, io, st, env, fr, w⟩ := h
  refine ⟨Gs F env sg, io, st, env, fr.ok, fr.er, (WantsS.expr fr w).impR fun st1 io1 H1 b ok1 e1 q => ?_⟩
  cases b with
  | true => exact ⟨F, io1, st1, env, q.1, q.2⟩
  | false => exact ⟨F, io1, st1, env, q.1, q.2⟩
def sSet (i : Nat) (f : DE) : DS := fun env st => (f env st).out env fun u st1 => .nx (env.set i (.val u)) st1
theorem s_set {i : Nat} {x : Str} {e : Expr} {f : DE} {pos' : Pos} (hN : X.N.Nodup) (hi : X.N[i]? = some x) (hx : Loc X.env.scope x) (he : PE X e (tD X.K xs wx f)) (hs : swapsWith e (some (.Name x pos')) pos.line X.env = Pure.pure false := by rfl)
    (hf : X.fn x = true ∨ X.env.scope.names.lookup x = some .local := by first | exact .inl rfl | exact .inr rfl | assumption) : PS X (.Assign [.Name x pos'] e pos) (tDS X.K xs wx (sSet i f)) := ps_imp (ps_set hN hi hx he hs hf) fun D sg H h => by
  obtain ⟨F, io, st, env, fr, w⟩ := h
  refine ⟨Gs F env sg, io, st, env, fr.ok, fr.er, (WantsS.expr fr w).impR fun st1 io1 H1 u ok1 e1 q v rv => ?_⟩
  have z := q.1.setVal (i := i) rv
  exact q.2 io1 _ H1 z.1 z.2
/-- a new list -/
abbrev DL := Env → Store → Rs (List U)
def tDL (K : PySem.W.Frag) (xs : XS) (wx : WX) (f : DL) : TE := fun sg H Q => ∃ G io st env, Ok K G io st H ∧ EnvRep K G io H env sg ∧
  Wants K G io H (fun _ io' H' us => ∀ vs a, Reps K (Wf G io') io' H' us vs → H' a = none → Q (.ref a) (upd H' a (.lst vs))) (XW xs wx sg) (f env st)
def newL (f : DL) : DE := fun env st => (f env st).bind fun us st1 => .ok (.lst us) st1
theorem d_new {e : Expr} {f : DL} (h : PE X e (tDL X.K xs wx f)) : PE X e (tD X.K xs wx (newL f)) := pe_imp h fun sg H Q q => by
  obtain ⟨G, io, st, env, ok, er, w⟩ := q
  refine ⟨G, io, st, env, ok, er, w.bind.impR fun st1 io1 H1 us ok1 e1 w1 vs a rvs na => ?_⟩
  exact w1.hereS ok1 (same_upd na) _ (ok1.newL na rvs)
def szDL (f : DA) : DL := fun env st => (f env st).bind fun us st1 => if us.length ≤ sizeLine then .ok us st1 else .bad
theorem l_lst {es : List Expr} {f : DA} (h : PA X es (tDA X.K xs wx f)) : PE X (.List es pos) (tDL X.K xs wx (szDL f)) := pe_imp (pe_lst h) fun sg H Q q => by
  obtain ⟨G, io, st, env, ok, er, w⟩ := q
  refine ⟨G, io, st, env, ok, er, w.bind.impR fun st1 io1 H1 us ok1 e1 w1 vs rvs => ?_⟩
  split at w1
  · rename_i hz
    exact ⟨by rw [← rvs.length]; exact hz, fun p hp => w1.here ok1 vs p rvs hp⟩
  · exact w1.elim
def sOwn (i : Nat) (f : DL) : DS := fun env st => (f env st).out env fun us st1 => if i < env.length then .nx (env.set i (.own us)) st1 else .bad
theorem s_own {i : Nat} {x : Str} {e : Expr} {f : DL} {pos' : Pos} (hN : X.N.Nodup) (hi : X.N[i]? = some x) (hx : Loc X.env.scope x) (he : PE X e (tDL X.K xs wx f)) (hs : swapsWith e (some (.Name x pos')) pos.line X.env = Pure.pure false := by rfl)
    (hf : X.fn x = true ∨ X.env.scope.names.lookup x = some .local := by first | exact .inl rfl | exact .inr rfl | assumption) : PS X (.Assign [.Name x pos'] e pos) (tDS X.K xs wx (sOwn i f)) := ps_imp (ps_set hN hi hx he hs hf) fun D sg H h => by
  obtain ⟨F, io, st, env, fr, w⟩ := h
  refine ⟨Gs F env sg, io, st, env, fr.ok, fr.er, (WantsS.expr fr w).impR fun st1 io1 H1 us ok1 e1 q vs a rvs na => ?_⟩
  have q2 := q.2
  split at q2
  · rename_i hl
    have z := q.1.setOwn (i := i) na rvs hl
    exact q2 io1 _ _ z.1 z.2
  · exact q2.elim
def sApp (i : Nat) (f : DE) : DS := fun env st => match env[i]? with
  | some (.own us) => (f env st).out env fun u st1 => if us.length < sizeLine then .nx (env.set i (.own (us ++ [u]))) st1 else .bad
  | _ => .bad
theorem Fr.slot {K : PySem.W.Frag} {F : Addr → Prop} {io : List Addr} {st : Store} {env : Env} {sg : L2.St} {H : Hp} (f : Fr K F io st env sg H) {i : Nat} {us : List U} (h : env[i]? = some (.own us)) : ∃ a vs, sg[i]? = some (some (.ref a)) ∧ H a = some (.lst vs) ∧ Reps K (Wf (Gs F env sg) io) io H us vs := by
  have hi : i < sg.length := by rw [← f.er.len]; exact (List.getElem?_eq_some_iff.mp h).1
  obtain ⟨a, vs, q1, _, q3, q4⟩ := f.er.sl i _ _ h (List.getElem?_eq_getElem hi)
  exact ⟨a, vs, (List.getElem?_eq_getElem hi).trans (congrArg some q1), q3, q4⟩
theorem s_app {i : Nat} {x : Str} {e : Expr} {f : DE} {p1 p2 : Pos} (hN : X.N[i]? = some x) (hv : Vis X.env.scope x) (he : PE X e (tD X.K xs wx f)) (hd : (x == ("__debug__" : Str)) = false := by decide) (hcd : (x == ("__classdict__" : Str)) = false := by decide)
    (hfew : ((backTo pos (starEach [e] X.env)).all (fun x => !x.1) && (backToKw pos (keywordEach [] X.env)).all (fun x => x.1.isSome) && decide ([e].length + ([] : List Keyword).length + (if ([] : List Keyword).isEmpty then 0 else 1) < 30)) = true := by rfl)
    (hline : (p1.endLine == pos.line) = true := by rfl) (hs : starEach (e :: []) X.env = (false, eval e X.env) :: starEach [] X.env := by rfl) (hplain : (backTo pos (starEach [] X.env)).any (·.1) = false := by rfl)
    (hsw : swapsWith (.Call (.Attribute (.Name x p2) "append" p1) [e] [] pos) none pos.line X.env = Pure.pure false := by rfl) {pos2 : Pos} :
    PS X (.Expr (.Call (.Attribute (.Name x p2) "append" p1) [e] [] pos) pos2) (tDS X.K xs wx (sApp i f)) := by
  refine ps_imp (ps_expr (pe_bm PySem.F.plainAttrs_list PySem.F.slot_list_append PySem.F.type_list_append mt_append (pe_var (i := i) hN hv hd hcd) (pa_cons he pa_nil hs) (by rfl) hfew hline hs hplain) hsw) fun D sg H h => ?_
  obtain ⟨F, io, st, env, fr, w⟩ := h
  unfold sApp at w
  split at w
  · rename_i us q
    obtain ⟨a, vs, e1, e2, r⟩ := fr.slot q
    refine ⟨.ref a, e1, .inl ⟨rfl, vs, .inl (.inl e2)⟩, ?_⟩
    refine ⟨Gs F env sg, io, st, env, fr.ok, fr.er, (WantsS.expr fr w).impR fun st1 io1 H1 u ok1 ex1 z v rv => ?_⟩
    have z2 := z.2
    obtain ⟨a', vs', e1', e2', r'⟩ := z.1.slot q
    rw [e1] at e1'; cases e1'
    split at z2
    · rename_i hl
      refine ⟨a, vs', v, rfl, rfl, e2', by rw [← r'.length]; exact hl, ?_⟩
      have y := z.1.turnOwn q e1 (r'.append (.cons rv .nil))
      exact z2 io1 _ _ y.1 y.2
    · exact z2.elim
  · exact w.elim
end
end D
namespace D
open PySem L2
/-! ### targets -/
abbrev Tg := U → Option (List (Nat × U))
def setE (env : Env) (l : List (Nat × U)) : Env := l.foldl (fun e p => e.set p.1 (.val p.2)) env
def setS (sg : L2.St) (l : List (Nat × V)) : L2.St := l.foldl (fun e p => e.set p.1 (some p.2)) sg
def gD (K : PySem.W.Frag) (t : Tg) : TG := fun v sg H Q => ∃ G io u l, Rep K (Wf G io) io H u v ∧ t u = some l ∧ ∀ vs, Reps K (Wf G io) io H (l.map (·.2)) vs → Q (setS sg ((l.map (·.1)).zip vs)) H
theorem pg_imp {X : Cx} {e : Expr} {t t' : TG} (h : PG X e t) (f : ∀ v sg H Q, t' v sg H Q → t v sg H Q) : PG X e t' := ⟨fun pins s sg H v u Q I r q => h.run pins s sg H v u Q I r (f v sg H Q q)⟩
def tgN (i : Nat) : Tg := fun u => some [(i, u)]
def tgT (is : List Nat) : Tg := fun u => match u with
  | .tup us => if us.length = is.length then some (is.zip us) else none
  | _ => none
section
variable {X : Cx} {xs : XS} {wx : WX} {pos : Pos}
theorem g_name {i : Nat} {x : Str} (hN : X.N.Nodup) (hi : X.N[i]? = some x) (hx : Loc X.env.scope x) (hf : X.fn x = true ∨ X.env.scope.names.lookup x = some .local := by first | exact .inl rfl | exact .inr rfl | assumption) : PG X (.Name x pos) (gD X.K (tgN i)) :=
  pg_imp (pg_name hN hi hx hf) fun v sg H Q h => by
    obtain ⟨G, io, u, l, r, e, q⟩ := h
    cases e
    exact q [v] (.cons r .nil)
/-- several names -/
inductive GNames (X : Cx) : List Expr → List Nat → Prop
  | nil : GNames X [] []
  | cons {x : Str} {p : Pos} {i : Nat} {es : List Expr} {is : List Nat} (hi : X.N[i]? = some x) (hx : Loc X.env.scope x) (hf : X.fn x = true ∨ X.env.scope.names.lookup x = some .local) (t : GNames X es is) : GNames X (.Name x p :: es) (i :: is)
def gSet : List Nat → TGs
  | [] => gNil
  | i :: is => gCons (gName i) (gSet is)
theorem GNames.pgs (hN : X.N.Nodup) : ∀ {es : List Expr} {is : List Nat}, GNames X es is → PGs X es (gSet is) ∧ (assignEach es X.env).length = is.length ∧ (assignEach es X.env).findIdx? (·.1) = none
  | _, _, .nil => ⟨pgs_nil, rfl, rfl⟩
  | _, _, .cons hi hx hf t => by
    obtain ⟨h1, h2, h3⟩ := GNames.pgs hN t
    refine ⟨pgs_cons (pg_name hN hi hx hf) h1 rfl, ?_, ?_⟩
    · show (_ :: assignEach _ X.env).length = _
      simp [h2]
    · show List.findIdx? _ ((false, _) :: assignEach _ X.env) = none
      rw [List.findIdx?_cons]
      simp [h3]
theorem gSet_of {Q : L2.St → Hp → Prop} {H : Hp} : ∀ (is : List Nat) (vs : List V) (sg : L2.St), vs.length = is.length → Q (setS sg (is.zip vs)) H → gSet is vs sg H Q
  | [], vs, sg, hl, h => ⟨List.eq_nil_of_length_eq_zero (by simpa using hl), h⟩
  | i :: is, [], sg, hl, h => by simp at hl
  | i :: is, v :: vs, sg, hl, h => ⟨v, vs, rfl, gSet_of is vs (sg.set i (some v)) (by simpa using hl) h⟩
theorem zip_fst {α β : Type} : ∀ (a : List α) (b : List β), b.length = a.length → (a.zip b).map (·.1) = a
  | [], _, _ => by simp
  | x :: a, [], h => by simp at h
  | x :: a, y :: b, h => by simp [zip_fst a b (by simpa using h)]
theorem zip_snd {α β : Type} : ∀ (a : List α) (b : List β), b.length = a.length → (a.zip b).map (·.2) = b
  | [], b, h => by simp at h; simp [h]
  | x :: a, [], h => by simp at h
  | x :: a, y :: b, h => by simp [zip_snd a b (by simpa using h)]
theorem g_tup {es : List Expr} {k : Nat} {is : List Nat} (hc : X.calm = true) (hN : X.N.Nodup) (h : GNames X es is) : PG X (.Tuple es k pos) (gD X.K (tgT is)) := by
  obtain ⟨h1, h2, h3⟩ := GNames.pgs hN h
  refine pg_imp (pg_tup hc h1 h2 h3) fun v sg H Q q => ?_
  obtain ⟨G, io, u, l, r, e, q⟩ := q
  cases u with
  | tup us =>
    unfold tgT at e
    simp only at e
    split at e
    · rename_i hl
      cases e
      unfold Rep at r
      obtain ⟨a, vs, rfl, lt, rs⟩ := r
      have hv : vs.length = is.length := by rw [← rs.length]; exact hl
      rw [zip_fst _ _ hl, zip_snd _ _ hl] at q
      exact ⟨a, vs, rfl, lt.sq, hv, gSet_of is vs sg hv (q vs rs)⟩
    · cases e
  | _ => cases e
end
section
variable {K : PySem.W.Frag} {F G : Addr → Prop} {io : List Addr} {st : Store} {env : Env} {sg : L2.St} {H : Hp}
theorem EnvRep.setVal (e : EnvRep K G io H env sg) {i : Nat} {u : U} {v : V} (r : Rep K (Wf G io) io H u v) : EnvRep K G io H (env.set i (.val u)) (sg.set i (some v)) := ⟨by simp [e.len], fun j s o h1 h2 => by
  by_cases hj : i = j
  · subst hj
    by_cases hl : i < env.length
    · rw [List.getElem?_set_self hl] at h1
      rw [List.getElem?_set_self (by rw [← e.len]; exact hl)] at h2
      cases h1; cases h2
      exact ⟨v, rfl, r⟩
    · rw [List.getElem?_eq_none (by simpa using Nat.le_of_not_lt hl)] at h1; cases h1
  · rw [List.getElem?_set_ne hj] at h1 h2
    exact e.sl j s o h1 h2⟩
theorem EnvRep.setAll : ∀ (l : List (Nat × U)) (vs : List V) {env : Env} {sg : L2.St}, EnvRep K G io H env sg → Reps K (Wf G io) io H (l.map (·.2)) vs → EnvRep K G io H (setE env l) (setS sg ((l.map (·.1)).zip vs))
  | [], vs, _, _, e, r => by simpa [setE, setS] using e
  | p :: l, vs, _, _, e, r => by
    obtain ⟨v, vr, rfl, r1, r2⟩ := r.uncons
    exact EnvRep.setAll l vr (e.setVal r1) r2
theorem EnvRep.wipe1 (e : EnvRep K G io H env sg) (i : Nat) : EnvRep K G io H (env.set i .un) (sg.set i none) := ⟨by simp [e.len], fun j s o h1 h2 => by
  by_cases hj : i = j
  · subst hj
    by_cases hl : i < env.length
    · rw [List.getElem?_set_self hl] at h1
      cases h1
      trivial
    · rw [List.getElem?_eq_none (by simpa using Nat.le_of_not_lt hl)] at h1; cases h1
  · rw [List.getElem?_set_ne hj] at h1 h2
    exact e.sl j s o h1 h2⟩
def wipeE (env : Env) : List Nat → Env
  | [] => env
  | v :: vs => (wipeE env vs).set v .un
theorem EnvRep.wipe (e : EnvRep K G io H env sg) : ∀ vs : List Nat, EnvRep K G io H (wipeE env vs) (L2.wipe sg vs)
  | [] => e
  | v :: vs => (EnvRep.wipe e vs).wipe1 v
theorem Fr.setAll : ∀ (l : List (Nat × U)) (vs : List V) {env : Env} {sg : L2.St}, Fr K F io st env sg H → Reps K (Wf (Gs F env sg) io) io H (l.map (·.2)) vs →
    Fr K F io st (setE env l) (setS sg ((l.map (·.1)).zip vs)) H ∧ ExtO io H (Ow env sg) io H (Ow (setE env l) (setS sg ((l.map (·.1)).zip vs)))
  | [], vs, _, _, f, r => by simpa [setE, setS] using ⟨f, ExtO.refl _ _ _⟩
  | p :: l, vs, _, _, f, r => by
    obtain ⟨v, vr, rfl, r1, r2⟩ := r.uncons
    obtain ⟨f1, e1⟩ := f.setVal (i := p.1) r1
    obtain ⟨f2, e2⟩ := Fr.setAll l vr f1 (r2.mono (e1.mono (F := F)))
    exact ⟨f2, e1.trans e2⟩
end
/-! ### what is walked -/
structure Wk (K : PySem.W.Frag) (G : Addr → Prop) (J : It) (io : List Addr) (H : Hp) (us : List U) : Prop where
  go : ∀ (i : Nat) G' io' st' H', Ok K G' io' st' H' → Mono G io H G' io' H' → i < us.length → J.go i H' ∧ ∀ x H'', J.yld i H' x H'' → Same H' H'' ∧ ∃ u, us[i]? = some u ∧ Rep K (Wf G' io') io' H'' u x
  stop : ∀ (i : Nat) G' io' st' H', Ok K G' io' st' H' → Mono G io H G' io' H' → us.length ≤ i → J.stop i H'
def tI (K : PySem.W.Frag) (xs : XS) (wx : WX) (f : DL) : TI := fun sg H R => ∃ G io st env, Ok K G io st H ∧ EnvRep K G io H env sg ∧
  Wants K G io H (fun _ io' H' us => ∀ J, Wk K G J io' H' us → R J H') (XW xs wx sg) (f env st)
theorem pi_imp {X : Cx} {tg e : Expr} {t t' : TI} (h : PI X tg e t) (f : ∀ sg H R, t' sg H R → t sg H R) : PI X tg e t' := ⟨fun pins s sg H R I q => h.run pins s sg H R I (f sg H R q)⟩
theorem Mono.refl (G : Addr → Prop) (io : List Addr) (H : Hp) : Mono G io H G io H := (Ext.refl io H).mono
theorem Mono.trans {G G1 G2 : Addr → Prop} {io io1 io2 : List Addr} {H H1 H2 : Hp} (a : Mono G io H G1 io1 H1) (b : Mono G1 io1 H1 G2 io2 H2) : Mono G io H G2 io2 H2 := by
  obtain ⟨m1, rfl⟩ := a.pre
  obtain ⟨m2, rfl⟩ := b.pre
  exact ⟨⟨m1 ++ m2, by rw [List.append_assoc]⟩, fun x o n h => let ⟨h1, n1⟩ := a.keep x o n h; b.keep x o n1 h1⟩
/-- the items of a thing that is walked as it lies -/
def items : U → Option (List U)
  | .lst us => some us
  | .tup us => some us
  | .str x => some (x.cps.toList.map fun c => U.str ⟨#[c]⟩)
  | .scr ns => some (ns.map U.int)
  | _ => none
def itemsD (f : DE) : DL := fun env st => (f env st).bind fun u st1 => Rs.of (items u) st1
section
variable {K : PySem.W.Frag} {G : Addr → Prop} {io : List Addr} {H : Hp}
theorem wk_list {a : Addr} {us : List U} {vs : List V} (h : LL K (Wf G io) H a vs) (r : Reps K (Wf G io) io H us vs) : Wk K G (Itl K a) io H us := by
  refine ⟨fun i G' io' st' H' ok m hi => ?_, fun i G' io' st' H' ok m hi => ⟨vs, (h.mono m).sq, by rw [← r.length]; exact hi⟩⟩
  obtain ⟨v, hv, rv⟩ := r.get (List.getElem?_eq_getElem hi)
  refine ⟨⟨vs, v, (h.mono m).sq, hv⟩, fun x H'' y => ?_⟩
  obtain ⟨rfl, y⟩ := y
  have e := (y vs (h.mono m).sq).symm.trans hv
  cases e
  exact ⟨Same.refl _, _, List.getElem?_eq_getElem hi, rv.mono m⟩
theorem wk_scr {a : Addr} {ns : List Int} (h : LS K (Wf G io) H a (ns.map V.int)) : Wk K G (Itl K a) io H (ns.map U.int) := by
  have r : Reps K (Wf G io) io H (ns.map U.int) (ns.map V.int) := Reps.ints ns
  refine ⟨fun i G' io' st' H' ok m hi => ?_, fun i G' io' st' H' ok m hi => ⟨_, (h.mono m).sq, by rw [← r.length]; exact hi⟩⟩
  obtain ⟨v, hv, rv⟩ := r.get (List.getElem?_eq_getElem hi)
  refine ⟨⟨_, v, (h.mono m).sq, hv⟩, fun x H'' y => ?_⟩
  obtain ⟨rfl, y⟩ := y
  have e := (y _ (h.mono m).sq).symm.trans hv
  cases e
  exact ⟨Same.refl _, _, List.getElem?_eq_getElem hi, rv.mono m⟩
theorem wk_tup {a : Addr} {us : List U} {vs : List V} (h : LT K (Wf G io) H a vs) (r : Reps K (Wf G io) io H us vs) : Wk K G (Itt K a) io H us := by
  refine ⟨fun i G' io' st' H' ok m hi => ?_, fun i G' io' st' H' ok m hi => ⟨vs, (h.mono m).sq, by rw [← r.length]; exact hi⟩⟩
  obtain ⟨v, hv, rv⟩ := r.get (List.getElem?_eq_getElem hi)
  refine ⟨⟨vs, v, (h.mono m).sq, hv⟩, fun x H'' y => ?_⟩
  obtain ⟨rfl, y⟩ := y
  have e := (y vs (h.mono m).sq).symm.trans hv
  cases e
  exact ⟨Same.refl _, _, List.getElem?_eq_getElem hi, rv.mono m⟩
theorem wk_str (x : Str) : Wk K G (Its x) io H (x.cps.toList.map fun c => U.str ⟨#[c]⟩) := by
  refine ⟨fun i G' io' st' H' ok m hi => ?_, fun i G' io' st' H' ok m hi => ?_⟩
  · have hi' : i < x.cps.size := by simpa using hi
    refine ⟨hi', fun v H'' y => ?_⟩
    obtain ⟨rfl, c, hc, rfl⟩ := y
    refine ⟨Same.refl _, .str ⟨#[c]⟩, ?_, by unfold Rep; rfl⟩
    rw [List.getElem?_map, Array.getElem?_toList, hc]; rfl
  · show x.cps.size ≤ i
    simpa using hi
theorem wk_range (lo : Int) (n : Nat) : Wk K G (Itr lo n) io H ((List.range n).map fun i => U.int (lo + (i : Nat))) := by
  refine ⟨fun i G' io' st' H' ok m hi => ?_, fun i G' io' st' H' ok m hi => ?_⟩
  · have hi' : i < n := by simpa using hi
    refine ⟨hi', fun v H'' y => ?_⟩
    obtain ⟨rfl, rfl⟩ := y
    refine ⟨Same.refl _, .int (lo + i), ?_, by unfold Rep; rfl⟩
    simp [hi']
  · show n ≤ i
    simpa using hi
end
section
variable {X : Cx} {xs : XS} {wx : WX} {pos : Pos} {tg : Expr}
/-- pyIter by values -/
def ItR (X : Cx) (tg : Expr) (r : V → Hp → (It → Hp → Prop) → Prop) : Prop := ∀ (pins : List (Addr × Obj)) (s : Shared) (sg : L2.St) (H : Hp) (x : V) (v : Value) (R : It → Hp → Prop), Inv X pins sg H s → RelV x v → r x H R →
  wpAny (model X.prog X.w) X.A (pyIter v) (PIE X pins sg tg R) X.xe s
theorem it_list : ItR X tg (fun x H R => ∃ a, x = .ref a ∧ (∃ xs, SqL X.K H a xs) ∧ R (Itl X.K a) H) := by
  intro pins s1 sg H1 x v R I1 r1 q1
  obtain ⟨a, e, ⟨xs, hq⟩, q⟩ := q1
  subst e
  cases r1
  obtain ⟨its, rv, p, hz⟩ := I1.list hq
  refine wpAny_pyIter_list p.isList ?_
  refine ⟨s1.heap.objs.size, [s1.heap.objs.size], _, _, H1, rfl, I1.kept (t' := s1.toks) fun b o e => Heap.get?_push_of_some _ e, turn_list a _, ⟨_, Heap.get?_push_size _ rfl, rfl, rfl⟩, fun b hb => ?_, q⟩
  have e : b = s1.heap.objs.size := by simpa using hb
  subst e
  exact I1.fpOk (Nat.le_refl _) (I1.hok.fresh (Nat.le_refl _))
theorem it_tup : ItR X tg (fun x H R => ∃ a, x = .ref a ∧ (∃ xs, SqT X.K H a xs) ∧ R (Itt X.K a) H) := by
  intro pins s1 sg H1 x v R I1 r1 q1
  obtain ⟨a, e, ⟨xs, hq⟩, q⟩ := q1
  subst e
  cases r1
  obtain ⟨its, rv, p, hz⟩ := I1.tuple hq
  refine wpAny_pyIter_tuple (show s1.heap.IsTuple a its.toArray from p) ?_
  refine ⟨s1.heap.objs.size, [s1.heap.objs.size], _, _, H1, rfl, I1.kept (t' := s1.toks) fun b o e => Heap.get?_push_of_some _ e, turn_tuple a _, ⟨_, Heap.get?_push_size _ rfl, rfl, rfl⟩, fun b hb => ?_, q⟩
  have e : b = s1.heap.objs.size := by simpa using hb
  subst e
  exact I1.fpOk (Nat.le_refl _) (I1.hok.fresh (Nat.le_refl _))
theorem it_str : ItR X tg (fun v H R => ∃ x, v = .str x ∧ R (Its x) H) := by
  intro pins s1 sg H1 y v R I1 r1 q1
  obtain ⟨x, ex, q⟩ := q1
  subst ex
  obtain ⟨t, rfl⟩ := r1
  cases ha : x.cps.all (· < 128)
  · exact wpAny_pyIter_wide ha (pi_one (tk := s1.toks) I1 _ (turn_str _ x t "str_iterator" (.inr rfl)) ⟨_, Heap.get?_push_size _ rfl, rfl, rfl⟩ q)
  · exact wpAny_pyIter_ascii ha (pi_one (tk := s1.toks) I1 _ (turn_str _ x t "str_ascii_iterator" (.inl rfl)) ⟨_, Heap.get?_push_size _ rfl, rfl, rfl⟩ q)
/-- items of a value, plain -/
theorem it_items : ItR X tg (fun x H R => ∃ G io st u us, Ok X.K G io st H ∧ Rep X.K (Wf G io) io H u x ∧ items u = some us ∧ ∀ J, Wk X.K G J io H us → R J H) := by
  intro pins s sg H x v R I r q
  obtain ⟨G, io, st, u, us, ok, rp, e, q⟩ := q
  cases u with
  | lst ws =>
    cases e
    unfold Rep at rp
    obtain ⟨a, vs, rfl, l, rs⟩ := rp
    exact it_list pins s sg H _ v R I r ⟨a, rfl, ⟨vs, l.sq⟩, q _ (wk_list l rs)⟩
  | tup ws =>
    cases e
    unfold Rep at rp
    obtain ⟨a, vs, rfl, l, rs⟩ := rp
    exact it_tup pins s sg H _ v R I r ⟨a, rfl, ⟨vs, l.sq⟩, q _ (wk_tup l rs)⟩
  | str z =>
    cases e
    unfold Rep at rp
    subst rp
    exact it_str pins s sg H _ v R I r ⟨z, rfl, q _ (wk_str z)⟩
  | scr ns =>
    cases e
    unfold Rep at rp
    obtain ⟨a, rfl, l⟩ := rp
    exact it_list pins s sg H _ v R I r ⟨a, rfl, ⟨_, l.sq⟩, q _ (wk_scr l)⟩
  | _ => cases e
theorem i_seq {e : Expr} {f : DE} (h : PE X e (tD X.K xs wx f)) : PI X tg e (tI X.K xs wx (itemsD f)) := by
  refine ⟨fun pins s sg H R I q => ?_⟩
  obtain ⟨G, io, st, env, ok, er, w⟩ := q
  refine thn (h.run pins s sg H (fun x H1 => ∃ G io st u us, Ok X.K G io st H1 ∧ Rep X.K (Wf G io) io H1 u x ∧ items u = some us ∧ ∀ J, Wk X.K G J io H1 us → R J H1) I ?_) fun v s1 ⟨x, H1, I1, r1, q1⟩ => it_items pins s1 sg H1 x v R I1 r1 q1
  refine ⟨G, io, st, env, ok, er, w.bind.impR fun st1 io1 H1 u ok1 e1 w1 v rv => ?_⟩
  obtain ⟨us, hu, w2⟩ := w1.pure
  exact ⟨G, io1, st1, u, us, ok1, rv, hu, fun J k => w2.here ok1 J k⟩
/-- range(n), range(a, b) -/
def rng1 : List U → Option (List U)
  | [.int j] => if -(2 ^ 62) ≤ j ∧ j < 2 ^ 62 then some ((List.range j.toNat).map fun i => U.int (i : Nat)) else none
  | _ => none
def rng2 : List U → Option (List U)
  | [.int i, .int j] => if -(2 ^ 62) ≤ i ∧ i < 2 ^ 62 ∧ -(2 ^ 62) ≤ j ∧ j < 2 ^ 62 then some ((List.range (j - i).toNat).map fun (k : Nat) => U.int (i + (k : Nat))) else none
  | _ => none
def itA (g : List U → Option (List U)) (f : DA) : DL := fun env st => (f env st).bind fun us st1 => Rs.of (g us) st1
theorem i_range1 {a : Expr} {f : DA} {p : Pos} (hg : Gl X "range") (hm : X.mg "range" = none) (ha : PA X [a] (tDA X.K xs wx f)) (hs : starEach [a] X.env = [(false, eval a X.env)] := by rfl) : PI X tg (.Call (.Name "range" p) [a] [] pos) (tI X.K xs wx (itA rng1 f)) :=
  pi_imp (pi_range1 hg hm ha hs) fun sg H R q => by
    obtain ⟨G, io, st, env, ok, er, w⟩ := q
    refine ⟨G, io, st, env, ok, er, w.bind.impR fun st1 io1 H1 us ok1 e1 w1 vs rvs => ?_⟩
    obtain ⟨ws, hu, w2⟩ := w1.pure
    unfold rng1 at hu
    split at hu
    · rename_i j
      split at hu
      · rename_i hj
        cases hu
        have e : vs = [V.int j] := Reps.ofInts (ns := [j]) rvs
        subst e
        refine ⟨j, rfl, hj.1, hj.2, w2.here ok1 _ ?_⟩
        have z := wk_range (K := X.K) (G := G) (io := io1) (H := H1) 0 j.toNat
        simpa using z
      · cases hu
    · cases hu
theorem i_range2 {a b : Expr} {f : DA} {p : Pos} (hg : Gl X "range") (hm : X.mg "range" = none) (ha : PA X [a, b] (tDA X.K xs wx f)) (hs : starEach [a, b] X.env = [(false, eval a X.env), (false, eval b X.env)] := by rfl) (hs2 : starEach [b] X.env = [(false, eval b X.env)] := by rfl) :
    PI X tg (.Call (.Name "range" p) [a, b] [] pos) (tI X.K xs wx (itA rng2 f)) :=
  pi_imp (pi_range2 hg hm ha hs hs2) fun sg H R q => by
    obtain ⟨G, io, st, env, ok, er, w⟩ := q
    refine ⟨G, io, st, env, ok, er, w.bind.impR fun st1 io1 H1 us ok1 e1 w1 vs rvs => ?_⟩
    obtain ⟨ws, hu, w2⟩ := w1.pure
    unfold rng2 at hu
    split at hu
    · rename_i i j
      split at hu
      · rename_i hj
        cases hu
        have e : vs = [V.int i, V.int j] := Reps.ofInts (ns := [i, j]) rvs
        subst e
        exact ⟨i, j, rfl, hj, w2.here ok1 _ (wk_range _ _)⟩
      · cases hu
    · cases hu
/-! ### for -/
def forL (t : Tg) (b : DS) : List U → Env → Store → Out
  | [], env, st => .nx env st
  | u :: us, env, st => match t u with
    | none => .bad
    | some l => match b (setE env l) st with
      | .nx env2 st2 => forL t b us env2 st2
      | .ct env2 st2 => forL t b us env2 st2
      | .bk env2 st2 => .nx env2 st2
      | .rt u st2 => .rt u st2
      | .ex c us env2 st2 => .ex c us env2 st2
      | .bad => .bad
def sFor (f : DL) (t : Tg) (b : DS) : DS := fun env st => (f env st).out env fun us st1 => forL t b us env st1
theorem s_for {iter : Expr} {body : List Stmt} {f : DL} {t : Tg} {b : DS} (hp : PassesOwn (model X.prog X.w) X.A X.env X.xe) (hc : X.calm = true) (hi : PI X tg iter (tI X.K xs wx f)) (hg : PG X tg (gD X.K t)) (hb : PSs X body (tDS X.K xs wx b))
    (hs : ∀ x, foldedSetIterable iter X.env x = Pure.pure x := by intro _; rfl) : PS X (.For tg iter body [] pos) (tDS X.K xs wx (sFor f t b)) := ps_imp (ps_for hp hc hi hg hb hs) fun D sg H h => by
  obtain ⟨F, io, st, env, fr, w⟩ := h
  refine ⟨Gs F env sg, io, st, env, fr.ok, fr.er, (WantsS.expr fr w).impR fun st1 io1 H1 us ok1 ex1 z J wk => ?_⟩
  refine ⟨fun i m sg' H' => ∃ io' st' env', Fr X.K F io' st' env' sg' H' ∧ ExtO io1 H1 (Ow env sg) io' H' (Ow env' sg') ∧ WantsS X.K F io' H' (Ow env' sg') D xs wx (forL t b (us.drop i) env' st') ∧ i + m = us.length,
    ⟨us.length, io1, st1, env, z.1, ExtO.refl _ _ _, z.2, by omega⟩, fun i m sg' H' hW => ?_⟩
  obtain ⟨io', st', env', f', e', w', hm⟩ := hW
  have mn := e'.mono (F := F)
  by_cases hi : i < us.length
  · obtain ⟨hgo, hy⟩ := wk.go i _ io' st' H' f'.ok mn hi
    refine .inr ⟨hgo, fun sg2 H2 => ∃ io' st' env', Fr X.K F io' st' env' sg2 H2 ∧ ExtO io1 H1 (Ow env sg) io' H2 (Ow env' sg2) ∧ WantsS X.K F io' H2 (Ow env' sg2) D xs wx (forL t b (us.drop (i + 1)) env' st') ∧ (i + 1) + (m - 1) = us.length,
      fun sg2 H2 hN => ⟨m - 1, by omega, hN⟩, fun x H'' y => ?_⟩
    obtain ⟨sm, u, hu, ru⟩ := hy x H'' y
    have f2 : Fr X.K F io' st' env' sg' H'' := f'.ext (f'.ok.same sm) (Ext.same sm)
    have e2 : ExtO io1 H1 (Ow env sg) io' H'' (Ow env' sg') := e'.trans ((Ext.same sm).o _)
    have w2 := WantsS.later w' ((Ext.same sm).o (Ow env' sg'))
    rw [List.drop_eq_getElem_cons hi] at w2
    have hu' : us[i] = u := Option.some.inj ((List.getElem?_eq_getElem hi).symm.trans hu)
    rw [hu'] at w2
    unfold forL at w2
    cases ht : t u with
    | none => rw [ht] at w2; exact w2.elim
    | some l =>
      rw [ht] at w2
      simp only at w2
      refine ⟨Gs F env' sg', io', u, l, ru, ht, fun vs rvs => ?_⟩
      obtain ⟨f3, e3⟩ := f2.setAll l vs rvs
      refine ⟨F, io', st', _, f3, ?_⟩
      cases hbo : b (setE env' l) st' with
      | nx env2 st2 =>
        rw [hbo] at w2
        exact fun io4 sg4 H4 f4 e4 => ⟨io4, st2, env2, f4, (e2.trans e3).trans e4, WantsS.later w2 (e3.trans e4), by omega⟩
      | ct env2 st2 =>
        rw [hbo] at w2
        exact fun io4 sg4 H4 f4 e4 => ⟨io4, st2, env2, f4, (e2.trans e3).trans e4, WantsS.later w2 (e3.trans e4), by omega⟩
      | bk env2 st2 =>
        rw [hbo] at w2
        exact fun io4 sg4 H4 f4 e4 => w2 io4 sg4 H4 f4 (e3.trans e4)
      | rt u2 st2 =>
        rw [hbo] at w2
        exact fun io4 H4 v4 f4 e4 => w2 io4 H4 v4 f4 (e3.trans e4)
      | ex c us2 env2 st2 =>
        rw [hbo] at w2
        exact fun io4 sg4 H4 f4 e4 => w2 io4 sg4 H4 f4 (e3.trans e4)
      | bad => rw [hbo] at w2; exact w2.elim
  · refine .inl ⟨wk.stop i _ io' st' H' f'.ok mn (Nat.le_of_not_lt hi), ?_⟩
    rw [List.drop_eq_nil_of_le (Nat.le_of_not_lt hi)] at w'
    exact w' io' sg' H' f' (ExtO.refl _ _ _)
end
end D
namespace D
open PySem L2
def noEx {A : Type} : Rs A → Rs A
  | .ex _ _ _ => .bad
  | r => r
theorem noEx_bind {A B : Type} (r : Rs A) (k : A → Store → Rs B) : noEx (r.bind k) = (noEx r).bind fun a st => noEx (k a st) := by cases r <;> rfl
theorem Wants.noEx {A : Type} {K G io H} {R : Store → List Addr → Hp → A → Prop} {XR XR'} {r : Rs A} (h : Wants K G io H R XR (noEx r)) : Wants K G io H R XR' r := by
  cases r with
  | ok a st => exact h
  | ex c us st => exact h.elim
  | bad => exact h
/-! ### a place that is hidden -/
def hid (H : Hp) (D : Addr) : Hp := fun b => if b = D then none else H b
theorem hid_same {H : Hp} {D : Addr} : hid H D D = none := by unfold hid; rw [if_pos rfl]
theorem hid_ne {H : Hp} {D b : Addr} (h : b ≠ D) : hid H D b = H b := by unfold hid; rw [if_neg h]
theorem hid_some {H : Hp} {D b : Addr} {o : HO} (h : hid H D b = some o) : b ≠ D ∧ H b = some o := by
  by_cases e : b = D
  · subst e; rw [hid_same] at h; cases h
  · rw [hid_ne e] at h; exact ⟨e, h⟩
theorem upd_hid {H : Hp} {D : Addr} {o : HO} (h : H D = some o) : upd (hid H D) D o = H := by
  funext b
  by_cases e : b = D
  · subst e; rw [upd_same, h]
  · rw [upd_ne e, hid_ne e]
theorem hid_upd {H : Hp} {D : Addr} {o : HO} : hid (upd H D o) D = hid H D := by
  funext b
  by_cases e : b = D
  · subst e; rw [hid_same, hid_same]
  · rw [hid_ne e, hid_ne e, upd_ne e]
theorem hid_none {H : Hp} {D : Addr} (h : H D = none) : hid H D = H := by
  funext b
  by_cases e : b = D
  · subst e; rw [hid_same, h]
  · rw [hid_ne e]
section
variable {K : PySem.W.Frag} {G : Addr → Prop} {io io' : List Addr} {H H' : Hp} {D : Addr} {st : Store} {env : Env} {sg : L2.St}
def Gd (G : Addr → Prop) (D : Addr) : Addr → Prop := fun a => G a ∨ a = D
theorem mono_enter : Mono G io (hid H D) (Gd G D) io H := ⟨⟨[], by simp⟩, fun a o n h => by
  obtain ⟨ne, e⟩ := hid_some h
  exact ⟨e, fun z => z.elim (fun z => z.elim (fun z => n (.inl z)) ne) fun z => n (.inr z)⟩⟩
theorem mono_leave : Mono (Gd G D) io H G io (hid H D) := ⟨⟨[], by simp⟩, fun a o n h => by
  have ne : a ≠ D := fun e => n (.inl (.inr e))
  exact ⟨by rw [hid_ne ne]; exact h, fun z => n (z.imp .inl id)⟩⟩
theorem ObRep.mono {G' : Addr → Prop} {a : Addr} {ob : Ob} (m : Mono G io H G' io' H') (keep : ∀ o, H a = some o → H' a = some o) (kx : ∀ dd ws, H dd = some (.xd ws) → H' dd = some (.xd ws)) (h : ObRep K (Wf G io) io H a ob) : ObRep K (Wf G' io') io' H' a ob := by
  cases ob with
  | lst us => obtain ⟨vs, q1, q2⟩ := h; exact ⟨vs, keep _ q1, q2.mono m⟩
  | dct _ _ => exact h
  | ins c fs => obtain ⟨C, d, q1, q2, q3⟩ := h; exact ⟨C, d, q1, keep _ q2, q3.keep kx⟩
  | gone => trivial
theorem Ok.enter {o : HO} (h : Ok K G io st (hid H D)) (hD : H D = some o) (hx : NX o) : Ok K (Gd G D) io st H := by
  refine ⟨h.nd, fun a ha z => ?_, fun a ha => ?_, h.len, fun n ob a e1 e2 => ?_⟩
  · rcases z with z | z
    · exact h.dj a ha z
    · subst z
      obtain ⟨o, e, _⟩ := h.trk a (.inr ha)
      exact (hid_some e).1 rfl
  · rcases ha with (z | z) | z
    · obtain ⟨o, e, x⟩ := h.trk a (.inl z); exact ⟨o, (hid_some e).2, x⟩
    · subst z; exact ⟨o, hD, hx⟩
    · obtain ⟨o, e, x⟩ := h.trk a (.inr z); exact ⟨o, (hid_some e).2, x⟩
  · exact (h.obs n ob a e1 e2).mono mono_enter (fun o q => (hid_some q).2) fun _ _ q => (hid_some q).2
theorem Ok.leave (h : Ok K (Gd G D) io st H) (hG : ¬ G D) : Ok K G io st (hid H D) := by
  have nD : D ∉ io := fun z => h.dj D z (.inr rfl)
  refine ⟨h.nd, fun a ha z => h.dj a ha (.inl z), fun a ha => ?_, h.len, fun n ob a e1 e2 => ?_⟩
  · obtain ⟨o, e, x⟩ := h.trk a (ha.imp .inl id)
    have ne : a ≠ D := fun z => by
      subst z
      exact ha.elim hG nD
    exact ⟨o, by rw [hid_ne ne]; exact e, x⟩
  · have ne : a ≠ D := fun z => by
      subst z
      exact nD (List.mem_of_getElem? e2)
    exact (h.obs n ob a e1 e2).mono mono_leave (fun o q => by rw [hid_ne ne]; exact q) fun dd ws q => by
      have nd : dd ≠ D := fun z => by
        subst z
        obtain ⟨o, e, x⟩ := h.trk dd (.inl (.inr rfl))
        rw [q] at e; cases e; exact x ws rfl
      rw [hid_ne nd]; exact q
theorem EnvRep.enter (h : EnvRep K G io (hid H D) env sg) : EnvRep K (Gd G D) io H env sg := ⟨h.len, fun i s o e1 e2 => by
  have q := h.sl i s o e1 e2
  cases s with
  | un => trivial
  | val u => obtain ⟨v, q1, q2⟩ := q; exact ⟨v, q1, q2.mono mono_enter⟩
  | own us => obtain ⟨a, vs, q1, q2, q3, q4⟩ := q; exact ⟨a, vs, q1, .inl q2, (hid_some q3).2, q4.mono mono_enter⟩⟩
theorem Ext.leave (e : Ext io H io' H') : Ext io (hid H D) io' (hid H' D) := by
  obtain ⟨m, q, f⟩ := e.pre
  refine ⟨⟨m, q, fun a ha => ?_⟩, fun a o ha h => ?_, fun a o h => ?_⟩
  · by_cases z : a = D
    · subst z; exact hid_same
    · rw [hid_ne z]; exact f a ha
  · obtain ⟨ne, h⟩ := hid_some h
    rw [hid_ne ne]; exact e.keep a o ha h
  · obtain ⟨ne, h⟩ := hid_some h
    obtain ⟨o', h'⟩ := e.stay a o h
    exact ⟨o', by rw [hid_ne ne]; exact h'⟩
end
/-! ### slots that are wiped -/
theorem wipe_set_mem {i : Nat} {o : Option V} : ∀ (vs : List Nat) (sg : L2.St), i ∈ vs → L2.wipe (sg.set i o) vs = L2.wipe sg vs
  | [], _, h => by simp at h
  | v :: vs, sg, h => by
    unfold L2.wipe
    by_cases hm : i ∈ vs
    · rw [wipe_set_mem vs sg hm]
    · have e : v = i := by
        rcases List.mem_cons.mp h with e | e
        · exact e.symm
        · exact (hm e).elim
      subst e
      have c : ∀ (ws : List Nat) (s : L2.St), v ∉ ws → L2.wipe (s.set v o) ws = (L2.wipe s ws).set v o := by
        intro ws
        induction ws with
        | nil => intro s _; rfl
        | cons x ws ih =>
          intro s hx
          unfold L2.wipe
          rw [ih s fun z => hx (List.mem_cons_of_mem _ z), List.set_comm _ _ fun z => hx (by rw [z]; exact List.mem_cons_self)]
      rw [c vs sg hm, List.set_set]
theorem wipe_wipe (sg : L2.St) (vs : List Nat) : L2.wipe (L2.wipe sg vs) vs = L2.wipe sg vs := by
  have c : ∀ (ws : List Nat), (∀ x ∈ ws, x ∈ vs) → L2.wipe (L2.wipe sg ws) vs = L2.wipe sg vs := by
    intro ws
    induction ws with
    | nil => intro _; rfl
    | cons x ws ih =>
      intro hx
      show L2.wipe ((L2.wipe sg ws).set x none) vs = _
      rw [wipe_set_mem vs _ (hx x List.mem_cons_self), ih fun y hy => hx y (List.mem_cons_of_mem _ hy)]
  exact c vs fun _ h => h
theorem wipe_setS : ∀ (l : List (Nat × V)) (vs : List Nat) (sg : L2.St), (∀ p ∈ l, p.1 ∈ vs) → L2.wipe (setS sg l) vs = L2.wipe sg vs
  | [], _, _, _ => rfl
  | p :: l, vs, sg, h => by
    show L2.wipe (setS (sg.set p.1 (some p.2)) l) vs = _
    rw [wipe_setS l vs _ fun q hq => h q (List.mem_cons_of_mem _ hq), wipe_set_mem vs sg (h p List.mem_cons_self)]
/-! ### comprehensions -/
def compL (t : Tg) (c : DT) (e : DE) : List U → Env → Store → Rs (List U)
  | [], _, st => .ok [] st
  | u :: us, env, st => match t u with
    | none => .bad
    | some l => (c (setE env l) st).bind fun b st1 => if b = true then (e (setE env l) st1).bind fun v st2 => (compL t c e us env st2).bind fun r st3 => .ok (v :: r) st3 else compL t c e us env st1
def compD (f : DL) (vs : List Nat) (t : Tg) (c : DT) (e : DE) : DL := fun env st => (f env st).bind fun us st1 => if us.length ≤ sizeLine then noEx (compL t c e us (wipeE env vs) st1) else .bad
def yesT : DT := fun _ st => .ok true st
abbrev wF : WX := fun _ _ _ _ => False
section
variable {X : Cx} {xs : XS} {wx : WX} {pos : Pos} {tg : Expr}
theorem ts_nil : PTs X [] (tDT X.K xs wx yesT) := ⟨fun pins s sg H Q I h => pts_nil.run pins s sg H Q I (by
  obtain ⟨G, io, st, env, ok, er, w⟩ := h
  exact w.here ok)⟩
theorem ts_one {c : Expr} {t : DT} (h : PT X c (tDT X.K xs wx t)) : PTs X [c] (tDT X.K xs wx t) := pts_one h
theorem comp_read {f : DL} {vs : List Nat} {t : Tg} {c : DT} {e : DE} {sg : L2.St} {H : Hp} {Q : VK} (hvs : ∀ u l, t u = some l → ∀ p ∈ l, p.1 ∈ vs) (h : tDL X.K xs wx (compD f vs t c e) sg H Q) :
    tLc (tI X.K xs wx f) (gD X.K t) (tDT X.K xs wF c) (tD X.K xs wF e) vs sg H Q := by
  obtain ⟨G, io, st, env, ok, er, w⟩ := h
  refine ⟨G, io, st, env, ok, er, w.bind.impR fun st1 io1 H1 us ok1 e1 w1 J wk D hD => ?_⟩
  split at w1
  case isFalse => exact w1.elim
  rename_i hz
  have nG : ¬ Wf G io1 D := ok1.fresh hD
  have er1 : EnvRep X.K G io1 H1 (wipeE env vs) (L2.wipe sg vs) := (er.ext ok.dj e1).wipe vs
  have hH : hid (upd H1 D (.lst [])) D = H1 := by rw [hid_upd, hid_none hD]
  refine ⟨fun i m H' => ∃ io' st' acc accv, Ok X.K G io' st' (hid H' D) ∧ Ext io1 H1 io' (hid H' D) ∧ H' D = some (.lst accv) ∧ Reps X.K (Wf G io') io' (hid H' D) acc accv ∧ acc.length ≤ i ∧ i + m = us.length ∧
      Wants X.K G io' (hid H' D) (fun _ io'' H'' ws => ∀ vs a, Reps X.K (Wf G io'') io'' H'' (acc ++ ws) vs → H'' a = none → Q (.ref a) (upd H'' a (.lst vs))) (XW xs wx sg) (noEx (compL t c e (us.drop i) (wipeE env vs) st')),
    ⟨us.length, io1, st1, [], [], by rw [hH]; exact ok1, by rw [hH]; exact Ext.refl _ _, upd_same, .nil, by simp, by omega, ?_⟩, fun i m H' hW => ?_⟩
  · rw [hH]
    exact w1.impR fun st' io' H' ws _ _ q => q
  obtain ⟨io', st', acc, accv, ok', ex', hD', ra, hai, hm, w'⟩ := hW
  have nio : D ∉ io' := fun z => by
    obtain ⟨o, q, _⟩ := ok'.trk D (.inr z)
    exact (hid_some q).1 rfl
  have okE : Ok X.K (Gd G D) io' st' H' := ok'.enter hD' nx_lst
  have mE : Mono G io1 H1 (Gd G D) io' H' := ex'.mono.trans mono_enter
  have erE : EnvRep X.K (Gd G D) io' H' (wipeE env vs) (L2.wipe sg vs) := (er1.ext ok1.dj ex').enter
  by_cases hi : i < us.length
  · obtain ⟨hgo, hy⟩ := wk.go i _ io' st' H' okE mE hi
    refine .inr ⟨hgo, _, fun H2 hN => ⟨m - 1, by omega, hN⟩, fun x H'' y => ?_⟩
    obtain ⟨sm, u, hu, ru⟩ := hy x H'' y
    have ok2 := okE.same sm
    have ex2 : Ext io' H' io' H'' := Ext.same sm
    have er2 : EnvRep X.K (Gd G D) io' H'' (wipeE env vs) (L2.wipe sg vs) := erE.ext okE.dj ex2
    rw [List.drop_eq_getElem_cons hi] at w'
    have hu' : us[i] = u := Option.some.inj ((List.getElem?_eq_getElem hi).symm.trans hu)
    rw [hu'] at w'
    unfold compL at w'
    cases ht : t u with
    | none => rw [ht] at w'; exact w'.elim
    | some l =>
      rw [ht] at w'
      simp only at w'
      refine ⟨Gd G D, io', u, l, ru, ht, fun lvs rvs => ⟨?_, ?_⟩⟩
      · rw [wipe_setS _ _ _ fun p hp => ?_, wipe_wipe]
        have hp1 : p.1 ∈ l.map (·.1) := (List.of_mem_zip hp).1
        obtain ⟨q, hq, e⟩ := List.mem_map.mp hp1
        rw [← e]
        exact hvs u l ht q hq
      have er3 := EnvRep.setAll l lvs er2 rvs
      have w2 := w'.later (Ext.leave (D := D) ex2)
      rw [noEx_bind] at w2
      -- the test
      have lift : ∀ {A : Type} {R : Store → List Addr → Hp → A → Prop} {XR} {r : Rs A} {io' : List Addr} {H' : Hp}, Wants X.K G io' (hid H' D) R XR (noEx r) → Wants X.K (Gd G D) io' H' (fun st2 io2 H2 a => Ok X.K G io2 st2 (hid H2 D) ∧ Ext io' (hid H' D) io2 (hid H2 D) ∧ R st2 io2 (hid H2 D) a) (XW xs wF (setS (L2.wipe sg vs) ((l.map (·.1)).zip lvs))) r := by
        intro A R XR r io' H' h
        cases r with
        | ok a st2 => exact fun io2 H2 o2 e2 => ⟨o2.leave fun z => nG (.inl z), e2.leave, h io2 _ (o2.leave fun z => nG (.inl z)) e2.leave⟩
        | ex _ _ _ => exact h.elim
        | bad => exact h
      have d2 : H'' D = some (.lst accv) := sm _ _ hD'
      refine ⟨Gd G D, io', st', _, ok2, er3, (lift w2.bind).impR fun st3 io3 H3 b ok3 e3 q => ?_⟩
      have d3 : H3 D = some (.lst accv) := e3.keep D _ nio d2
      have nio3 : D ∉ io3 := fun z => ok3.dj D z (.inr rfl)
      have exA : Ext io1 H1 io3 (hid H3 D) := (ex'.trans (Ext.leave (D := D) ex2)).trans q.2.1
      obtain ⟨q1, q2, q3⟩ := q
      cases b with
      | false => exact ⟨io3, st3, acc, accv, q1, exA, d3, (ra.ext (Ext.leave (D := D) ex2)).ext q2, by omega, by omega, q3⟩
      | true =>
        simp only [if_true] at q3
        rw [noEx_bind] at q3
        refine ⟨Gd G D, io3, st3, _, ok3, er3.ext ok2.dj e3, (lift q3.bind).impR fun st4 io4 H4 v ok4 e4 q4 y ry => ?_⟩
        obtain ⟨p1, p2, p3⟩ := q4
        have d4 : H4 D = some (.lst accv) := e4.keep D _ nio3 d3
        have rA := ((ra.ext (Ext.leave (D := D) ex2)).ext q2).ext p2
        refine ⟨accv, d4, ?_, io4, st4, acc ++ [v], accv ++ [y], ?_, ?_, upd_same, ?_, by simp; omega, by omega, ?_⟩
        · rw [← ra.length]; omega
        · rw [hid_upd]; exact p1
        · rw [hid_upd]; exact exA.trans p2
        · rw [hid_upd]; exact rA.append (.cons (ry.mono mono_leave) .nil)
        · rw [hid_upd]
          rw [noEx_bind] at p3
          refine p3.bind.impR fun st5 io5 H5 ws ok5 e5 q5 => ?_
          have q6 := Wants.here (a := v :: ws) q5 ok5
          intro vs' a' r' n'
          exact q6 vs' a' (by rw [List.append_assoc] at r'; exact r') n'
  · refine .inl ⟨wk.stop i _ io' st' H' okE mE (Nat.le_of_not_lt hi), ?_⟩
    rw [List.drop_eq_nil_of_le (Nat.le_of_not_lt hi)] at w'
    have q := Wants.here (a := ([] : List U)) w' ok' accv D (by rw [List.append_nil]; exact ra) hid_same
    rw [upd_hid hD'] at q
    exact q
theorem l_comp {elt iter : Expr} {ifs : List Expr} {scope : Scope} {own : List (Str × Nat)} {f : DL} {t : Tg} {c : DT} {e : DE} (hc : X.calm = true) (hN : X.N.Nodup) (hi : PI X tg iter (tI X.K xs wx f)) (ok : BlkOk X.N X.env.scope scope own)
    (hvs : ∀ u l, t u = some l → ∀ p ∈ l, p.1 ∈ own.map (·.2))
    (hg : ∀ (s : Shared) (H : Hp) (C : Addr) (cl : List (Str × Addr)) (fp : List Addr), PG (X.blk s H scope (compEnvC scope cl C X.env) fp) tg (gD X.K t)) (ht : ∀ (s : Shared) (H : Hp) (C : Addr) (cl : List (Str × Addr)) (fp : List Addr), PTs (X.blk s H scope (compEnvC scope cl C X.env) fp) ifs (tDT X.K xs wF c))
    (he : ∀ (s : Shared) (H : Hp) (C : Addr) (cl : List (Str × Addr)) (fp : List Addr), PE (X.blk s H scope (compEnvC scope cl C X.env) fp) elt (tD X.K xs wF e)) (hs : ∀ x, foldedSetIterable iter X.env x = Pure.pure x := by intro _; rfl) :
    PE X (.ListComp elt [⟨tg, iter, ifs, 0⟩] scope pos) (tDL X.K xs wx (compD f (own.map (·.2)) t c e)) := pe_imp (pe_lc hc hN hi ok hg ht he hs) fun sg H Q h => comp_read hvs h
/-- x = [..] on one line -/
theorem s_setLc {i : Nat} {y : Str} {py spos : Pos} {elt iter : Expr} {ifs : List Expr} {scope : Scope} {own : List (Str × Nat)} {f : DL} {t : Tg} {c : DT} {e : DE} (hc : X.calm = true) (hN : X.N.Nodup) (hy : X.N[i]? = some y) (hyl : X.env.scope.names.lookup y = some .local)
    (hsw : swapsWith (.ListComp elt [⟨tg, iter, ifs, 0⟩] scope pos) (some (.Name y py)) spos.line X.env = Pure.pure true) (hi : PI X tg iter (tI X.K xs wx f)) (ok : BlkOk X.N X.env.scope scope own)
    (hvs : ∀ u l, t u = some l → ∀ p ∈ l, p.1 ∈ own.map (·.2))
    (hg : ∀ (s : Shared) (H : Hp) (C : Addr) (cl : List (Str × Addr)) (fp : List Addr), PG (X.blk s H scope (compEnvC scope cl C X.env) fp) tg (gD X.K t)) (ht : ∀ (s : Shared) (H : Hp) (C : Addr) (cl : List (Str × Addr)) (fp : List Addr), PTs (X.blk s H scope (compEnvC scope cl C X.env) fp) ifs (tDT X.K xs wF c))
    (he : ∀ (s : Shared) (H : Hp) (C : Addr) (cl : List (Str × Addr)) (fp : List Addr), PE (X.blk s H scope (compEnvC scope cl C X.env) fp) elt (tD X.K xs wF e)) (hs : ∀ x, foldedSetIterable iter X.env x = Pure.pure x := by intro _; rfl) :
    PS X (.Assign [.Name y py] (.ListComp elt [⟨tg, iter, ifs, 0⟩] scope pos) spos) (tDS X.K xs wx (sOwn i (compD f (own.map (·.2)) t c e))) := ps_imp (ps_setLc hc hN hy hyl hsw hi ok hg ht he hs) fun D sg H h => by
  obtain ⟨F, io, st, env, fr, w⟩ := h
  refine comp_read hvs ⟨Gs F env sg, io, st, env, fr.ok, fr.er, (WantsS.expr fr w).impR fun st1 io1 H1 us ok1 e1 q vs a rvs na => ?_⟩
  have q2 := q.2
  split at q2
  · rename_i hl
    have z := q.1.setOwn (i := i) na rvs hl
    exact q2 io1 _ _ z.1 z.2
  · exact q2.elim
theorem s_setLcV {i : Nat} {y : Str} {py spos : Pos} {elt iter : Expr} {ifs : List Expr} {scope : Scope} {own : List (Str × Nat)} {f : DL} {t : Tg} {c : DT} {e : DE} (hc : X.calm = true) (hN : X.N.Nodup) (hy : X.N[i]? = some y) (hyl : X.env.scope.names.lookup y = some .local)
    (hsw : swapsWith (.ListComp elt [⟨tg, iter, ifs, 0⟩] scope pos) (some (.Name y py)) spos.line X.env = Pure.pure true) (hi : PI X tg iter (tI X.K xs wx f)) (ok : BlkOk X.N X.env.scope scope own)
    (hvs : ∀ u l, t u = some l → ∀ p ∈ l, p.1 ∈ own.map (·.2))
    (hg : ∀ (s : Shared) (H : Hp) (C : Addr) (cl : List (Str × Addr)) (fp : List Addr), PG (X.blk s H scope (compEnvC scope cl C X.env) fp) tg (gD X.K t)) (ht : ∀ (s : Shared) (H : Hp) (C : Addr) (cl : List (Str × Addr)) (fp : List Addr), PTs (X.blk s H scope (compEnvC scope cl C X.env) fp) ifs (tDT X.K xs wF c))
    (he : ∀ (s : Shared) (H : Hp) (C : Addr) (cl : List (Str × Addr)) (fp : List Addr), PE (X.blk s H scope (compEnvC scope cl C X.env) fp) elt (tD X.K xs wF e)) (hs : ∀ x, foldedSetIterable iter X.env x = Pure.pure x := by intro _; rfl) :
    PS X (.Assign [.Name y py] (.ListComp elt [⟨tg, iter, ifs, 0⟩] scope pos) spos) (tDS X.K xs wx (sSet i (newL (compD f (own.map (·.2)) t c e)))) := ps_imp (ps_setLc hc hN hy hyl hsw hi ok hg ht he hs) fun D sg H h => by
  obtain ⟨F, io, st, env, fr, w⟩ := h
  refine comp_read hvs ⟨Gs F env sg, io, st, env, fr.ok, fr.er, ?_⟩
  refine (WantsS.expr fr w).bind.impR fun st1 io1 H1 us ok1 e1 q vs a rvs na => ?_
  have q1 := Wants.hereS (a := U.lst us) q ok1 (same_upd (o := .lst vs) na)
  have z := q1.1.setVal (i := i) (ok1.newL na rvs)
  exact q1.2 io1 _ _ z.1 z.2
end
end D
namespace D
open PySem L2
/-! ### a def -/
def fin : Out → Rs U
  | .rt u st => .ok u st
  | .nx _ st => .ok .non st
  | .ex c us _ st => .ex c us st
  | _ => .bad
def env0 (m : Nat) (us : List U) : Env := us.map Sl.val ++ List.replicate (m - us.length) .un
def runB (m n : Nat) (body : DS) : List U → Store → Rs U := fun us st => if us.length = n then fin (body (env0 m us) st) else .bad
theorem runB_bad {m n : Nat} {body : DS} (us : List U) (st : Store) (h : us.length ≠ n) : runB m n body us st = .bad := by unfold runB; rw [if_neg h]
theorem env0_no {m : Nat} {us : List U} {i : Nat} {ws : List U} : (env0 m us)[i]? ≠ some (.own ws) := fun h => by
  unfold env0 at h
  rcases List.mem_append.mp (List.mem_of_getElem? h) with h | h
  · obtain ⟨_, _, e⟩ := List.mem_map.mp h; cases e
  · have := List.eq_of_mem_replicate h; cases this
theorem start_rep {K : PySem.W.Frag} {G : Addr → Prop} {io : List Addr} {H : Hp} {N : List Str} {us : List U} {vs : List V} (r : Reps K (Wf G io) io H us vs) (m : Nat) : EnvRep K G io H (env0 m us) (vs.map some ++ List.replicate (m - vs.length) none) := by
  have hl := r.length
  refine ⟨by unfold env0; simp [hl], fun i s o h1 h2 => ?_⟩
  unfold env0 at h1
  by_cases hi : i < us.length
  · rw [List.getElem?_append_left (by simpa using hi)] at h1
    rw [List.getElem?_append_left (by simpa [← hl] using hi)] at h2
    rw [List.getElem?_map, List.getElem?_eq_getElem hi] at h1
    obtain ⟨v, hv, rv⟩ := r.get (List.getElem?_eq_getElem hi)
    rw [List.getElem?_map, hv] at h2
    cases h1; cases h2
    exact ⟨v, rfl, rv⟩
  · rw [List.getElem?_append_right (by simpa using Nat.le_of_not_lt hi)] at h1
    have e := List.eq_of_mem_replicate (List.mem_of_getElem? h1)
    subst e
    trivial
section
variable {P : Program} {w : World} {K : PySem.W.Frag} {mg : Str → Option Value} {base : Heap} {xs : XS}
theorem fn_d {x qual : Str} {s : Stmt} {f : Addr} {fd : FuncData} {N ps : List Str} {k : Nat} {body : DS} (F : Fun K x qual s f fd) (S : FnScope N ps (defScope s))
    (hb : ∀ (cdv : Value) (A : Around) (outer : List PySem.Env) (sh : Shared) (H : Hp) (E : XK), Room k (A.deeper (PyProof.Rows.envOfC qual (defScope s) sh.heap.objs.size f cdv)) →
      PSs (cxOf (L2.CX P w) P w K mg base N qual (defScope s) f cdv A outer sh H E) (defBody s) (tDS K xs (fun cls d _ H => E cls d H) body)) :
    FnOk P w K mg base (L2.CX P w) (k + 1) f fd ps (spD K xs ps.length (runB N.length ps.length body)) := by
  refine F.okX S (fun vs H Q E h => h.1) (fun cdv A outer sh H vs Q E hr h => ⟨_, hb cdv A outer sh H E hr, ?_⟩)
  obtain ⟨hl, G, io, st, us, ok, r, w⟩ := h
  have no : ∀ a, ¬ Ow (env0 N.length us) (start N vs) a := fun a ⟨i, ws, h1, _⟩ => env0_no h1
  have sub : ∀ a, Gs G (env0 N.length us) (start N vs) a → G a := fun a h => h.elim id fun z => (no a z).elim
  have m : Mono G io H (Gs G (env0 N.length us) (start N vs)) io H := ⟨⟨[], by simp⟩, fun a o n h => ⟨h, fun z => n (z.imp (sub a) id)⟩⟩
  refine ⟨G, io, st, env0 N.length us, ⟨ok.mono sub, start_rep (N := N) (r.mono m) N.length, fun a h => (no a h).elim, fun i j a us us' h1 _ _ _ => (env0_no h1).elim⟩, ?_⟩
  unfold runB at w
  rw [if_pos (show us.length = ps.length by rw [r.length]; exact hl)] at w
  have toE : ∀ {io' H' O'}, ExtO io H (Ow (env0 N.length us) (start N vs)) io' H' O' → Ext io H io' H' := fun e => ⟨let ⟨m, q1, q2⟩ := e.pre; ⟨m, q1, fun a h => (q2 a h).elim id fun z => (no a z).elim⟩, fun a o h q => e.keep a o h (no a) q, e.stay⟩
  cases q : body (env0 N.length us) st with
  | nx env' st' => rw [q] at w; exact fun io' sg' H' f' e' => w io' H' (f'.ok.mono fun _ => .inl) (toE e') .non (by unfold Rep; rfl)
  | rt u st' => rw [q] at w; exact fun io' H' v o' e' rv => w io' H' o' (toE e') v rv
  | ex c us env' st' => rw [q] at w; exact fun io' sg' H' f' e' cls d hx => w io' H' (f'.ok.mono fun _ => .inl) (toE e') cls d hx
  | bk _ _ => rw [q] at w; exact w.elim
  | ct _ _ => rw [q] at w; exact w.elim
  | bad => rw [q] at w; exact w.elim
end
/-! ### operators -/
def add2 : U → U → Option U
  | .int i, .int j => some (.int (i + j))
  | .str x, .str y => if x.length + y.length ≤ sizeLine then some (.str (x ++ y)) else none
  | .tup x, .tup y => if x.length + y.length ≤ sizeLine then some (.tup (x ++ y)) else none
  | .lst x, .lst y => if x.length + y.length ≤ sizeLine then some (.lst (x ++ y)) else none
  | _, _ => none
def sub2 : U → U → Option U
  | .int i, .int j => some (.int (i - j))
  | _, _ => none
def smallI (i : Int) : Bool := decide (-(2 ^ 64) < i ∧ i < 2 ^ 64)
def mul2 : U → U → Option U
  | .int i, .int j => if smallI i || smallI j then some (.int (i * j)) else none
  | .lst x, .int k => if -(2 ^ 63) ≤ k ∧ k < 2 ^ 63 ∧ x.length * k.toNat ≤ sizeLine then some (.lst (List.replicate k.toNat x).flatten) else none
  | _, _ => none
def mod2 : U → U → Option U
  | .int i, .int j => if 0 < j then some (.int (i % j)) else none
  | _, _ => none
def fdiv2 : U → U → Option U
  | .int i, .int j => if 0 < j ∧ j < 1073741824 then some (.int (i / j)) else none
  | _, _ => none
def pow2 : U → U → Option U
  | .int i, .int j => if 0 ≤ j ∧ j ≤ 1000000 ∧ i.natAbs < 2 ^ 64 then some (.int (i ^ j.toNat)) else none
  | _, _ => none
def shl2 : U → U → Option U
  | .int i, .int j => if 0 ≤ j ∧ j ≤ 1000000 ∧ i.natAbs < 2 ^ 64 then some (.int (i * 2 ^ j.toNat)) else none
  | _, _ => none
def neg1 : U → Option U
  | .int i => some (.int (-i))
  | _ => none
def ltC (x y : Str) : Bool := decide (x.cps.toList < y.cps.toList)
def lt2 : U → U → Option U
  | .int i, .int j => some (.bl (decide (i < j)))
  | .str x, .str y => some (.bl (ltC x y))
  | _, _ => none
def le2 : U → U → Option U
  | .int i, .int j => some (.bl (decide (i ≤ j)))
  | .str x, .str y => some (.bl (!ltC y x))
  | _, _ => none
def gt2 : U → U → Option U
  | .int i, .int j => some (.bl (decide (j < i)))
  | .str x, .str y => some (.bl (ltC y x))
  | _, _ => none
def ge2 : U → U → Option U
  | .int i, .int j => some (.bl (decide (j ≤ i)))
  | .str x, .str y => some (.bl (!ltC x y))
  | _, _ => none
section
variable {K : PySem.W.Frag} {W : Addr → Prop} {io : List Addr} {H : Hp}
theorem Rep.int' {i : Int} {v : V} (h : Rep K W io H (.int i) v) : v = .int i := by unfold Rep at h; exact h
theorem Rep.str' {i : Str} {v : V} (h : Rep K W io H (.str i) v) : v = .str i := by unfold Rep at h; exact h
theorem Rep.bl' {i : Bool} {v : V} (h : Rep K W io H (.bl i) v) : v = .bl i := by unfold Rep at h; exact h
theorem Rep.non' {v : V} (h : Rep K W io H .non v) : v = .non := by unfold Rep at h; exact h
theorem Rep.tup' {us : List U} {v : V} (h : Rep K W io H (.tup us) v) : ∃ a vs, v = .ref a ∧ LT K W H a vs ∧ Reps K W io H us vs := by unfold Rep at h; exact h
theorem Rep.lst' {us : List U} {v : V} (h : Rep K W io H (.lst us) v) : ∃ a vs, v = .ref a ∧ LL K W H a vs ∧ Reps K W io H us vs := by unfold Rep at h; exact h
theorem rInt (i : Int) : Rep K W io H (.int i) (.int i) := by unfold Rep; rfl
theorem rStr (i : Str) : Rep K W io H (.str i) (.str i) := by unfold Rep; rfl
theorem rBl (i : Bool) : Rep K W io H (.bl i) (.bl i) := by unfold Rep; rfl
theorem rNon : Rep K W io H .non .non := by unfold Rep; rfl
theorem rTup {us : List U} {a : Addr} {vs : List V} (l : LT K W H a vs) (r : Reps K W io H us vs) : Rep K W io H (.tup us) (.ref a) := by unfold Rep; exact ⟨a, vs, rfl, l, r⟩
end
theorem Reps.rep {K : PySem.W.Frag} {W : Addr → Prop} {io : List Addr} {H : Hp} {us : List U} {vs : List V} (h : Reps K W io H us vs) : ∀ k : Nat, Reps K W io H (List.replicate k us).flatten (List.replicate k vs).flatten
  | 0 => .nil
  | k + 1 => by
    rw [List.replicate_succ, List.replicate_succ, List.flatten_cons, List.flatten_cons]
    exact h.append (Reps.rep h k)
section
variable {X : Cx}
theorem o_add : OpR X (binaryOp .Add) (P2 X.K add2) := by
  intro pins s sg H x y v u Q I rx ry h
  obtain ⟨G, io, st, u1, u2, u3, ok, r1, r2, e, q⟩ := h
  unfold add2 at e
  split at e
  · cases e; have e1 := r1.int'; have e2 := r2.int'; subst e1; subst e2
    exact op_add pins s sg H _ _ v u Q I rx ry ⟨_, _, rfl, rfl, q _ H (Same.refl H) (rInt _)⟩
  · split at e
    · rename_i hz
      cases e; have e1 := r1.str'; have e2 := r2.str'; subst e1; subst e2
      exact op_add_str pins s sg H _ _ v u Q I rx ry ⟨_, _, rfl, rfl, hz, q _ H (Same.refl H) (rStr _)⟩
    · cases e
  · split at e
    · rename_i hz
      cases e
      obtain ⟨a, vs, rfl, l1, s1⟩ := r1.tup'
      obtain ⟨b, ws, rfl, l2, s2⟩ := r2.tup'
      refine op_catA pins s sg H _ _ v u Q I rx ry ⟨a, b, vs, ws, rfl, rfl, l1.sq, l2.sq, by rw [← s1.length, ← s2.length]; exact hz, fun e => ?_, fun n e => ?_, fun n1 n2 p hp => ?_⟩
      · subst e
        have e0 : _ = [] := List.eq_nil_of_length_eq_zero (by rw [s1.length]; rfl)
        subst e0
        exact q _ H (Same.refl H) (rTup l2 s2)
      · subst e
        have e0 : _ = [] := List.eq_nil_of_length_eq_zero (by rw [s2.length]; rfl)
        subst e0
        exact q _ H (Same.refl H) (by rw [List.append_nil]; exact rTup l1 s1)
      · exact q _ _ (same_upd hp) (ok.newT hp (s1.append s2))
    · cases e
  · split at e
    · rename_i hz
      cases e
      obtain ⟨a, vs, rfl, l1, s1⟩ := r1.lst'
      obtain ⟨b, ws, rfl, l2, s2⟩ := r2.lst'
      exact op_cat pins s sg H _ _ v u Q I rx ry ⟨a, b, vs, ws, rfl, rfl, l1.1, l2.1, by rw [← s1.length, ← s2.length]; exact hz, fun p hp => q _ _ (same_upd hp) (ok.newL hp (s1.append s2))⟩
    · cases e
  · cases e
theorem o_sub : OpR X (binaryOp .Sub) (P2 X.K sub2) := by
  intro pins s sg H x y v u Q I rx ry h
  obtain ⟨G, io, st, u1, u2, u3, ok, r1, r2, e, q⟩ := h
  unfold sub2 at e
  split at e
  · cases e; have e1 := r1.int'; have e2 := r2.int'; subst e1; subst e2
    exact op_sub pins s sg H _ _ v u Q I rx ry ⟨_, _, rfl, rfl, q _ H (Same.refl H) (rInt _)⟩
  · cases e
theorem o_mul : OpR X (binaryOp .Mult) (P2 X.K mul2) := by
  intro pins s sg H x y v u Q I rx ry h
  obtain ⟨G, io, st, u1, u2, u3, ok, r1, r2, e, q⟩ := h
  unfold mul2 at e
  split at e
  · split at e
    · rename_i hs
      cases e; have e1 := r1.int'; have e2 := r2.int'; subst e1; subst e2
      refine op_mul pins s sg H _ _ v u Q I rx ry ⟨_, _, rfl, rfl, ?_, q _ H (Same.refl H) (rInt _)⟩
      rw [Bool.or_eq_true] at hs
      exact hs.imp of_decide_eq_true of_decide_eq_true
    · cases e
  · split at e
    · rename_i hz
      cases e
      obtain ⟨a, vs, rfl, l1, s1⟩ := r1.lst'
      have e2 := r2.int'; subst e2
      exact op_rep pins s sg H _ _ v u Q I rx ry ⟨a, _, vs, rfl, rfl, l1.1, hz.1, hz.2.1, by rw [← s1.length]; exact hz.2.2, fun p hp => q _ _ (same_upd hp) (ok.newL hp (s1.rep _))⟩
    · cases e
  · cases e
theorem o_mod : OpR X (binaryOp .Mod) (P2 X.K mod2) := by
  intro pins s sg H x y v u Q I rx ry h
  obtain ⟨G, io, st, u1, u2, u3, ok, r1, r2, e, q⟩ := h
  unfold mod2 at e
  split at e
  · split at e
    · rename_i hs
      cases e; have e1 := r1.int'; have e2 := r2.int'; subst e1; subst e2
      exact op_mod pins s sg H _ _ v u Q I rx ry ⟨_, _, rfl, rfl, hs, q _ H (Same.refl H) (rInt _)⟩
    · cases e
  · cases e
theorem o_fdiv : OpR X (binaryOp .FloorDiv) (P2 X.K fdiv2) := by
  intro pins s sg H x y v u Q I rx ry h
  obtain ⟨G, io, st, u1, u2, u3, ok, r1, r2, e, q⟩ := h
  unfold fdiv2 at e
  split at e
  · split at e
    · rename_i hs
      cases e; have e1 := r1.int'; have e2 := r2.int'; subst e1; subst e2
      exact op_fdiv pins s sg H _ _ v u Q I rx ry ⟨_, _, rfl, rfl, hs, q _ H (Same.refl H) (rInt _)⟩
    · cases e
  · cases e
theorem o_pow : OpR X (binaryOp .Pow) (P2 X.K pow2) := by
  intro pins s sg H x y v u Q I rx ry h
  obtain ⟨G, io, st, u1, u2, u3, ok, r1, r2, e, q⟩ := h
  unfold pow2 at e
  split at e
  · split at e
    · rename_i hs
      cases e; have e1 := r1.int'; have e2 := r2.int'; subst e1; subst e2
      exact op_pow pins s sg H _ _ v u Q I rx ry ⟨_, _, rfl, rfl, hs, q _ H (Same.refl H) (rInt _)⟩
    · cases e
  · cases e
theorem o_shl : OpR X (binaryOp .LShift) (P2 X.K shl2) := by
  intro pins s sg H x y v u Q I rx ry h
  obtain ⟨G, io, st, u1, u2, u3, ok, r1, r2, e, q⟩ := h
  unfold shl2 at e
  split at e
  · split at e
    · rename_i hs
      cases e; have e1 := r1.int'; have e2 := r2.int'; subst e1; subst e2
      exact op_shl pins s sg H _ _ v u Q I rx ry ⟨_, _, rfl, rfl, hs, q _ H (Same.refl H) (rInt _)⟩
    · cases e
  · cases e
theorem o_lt : OpR X (compareOp .Lt) (P2 X.K lt2) := by
  intro pins s sg H x y v u Q I rx ry h
  obtain ⟨G, io, st, u1, u2, u3, ok, r1, r2, e, q⟩ := h
  unfold lt2 at e
  split at e
  · cases e; have e1 := r1.int'; have e2 := r2.int'; subst e1; subst e2
    exact op_lt pins s sg H _ _ v u Q I rx ry ⟨_, _, rfl, rfl, q _ H (Same.refl H) (rBl _)⟩
  · cases e; have e1 := r1.str'; have e2 := r2.str'; subst e1; subst e2
    exact op_lt_str pins s sg H _ _ v u Q I rx ry ⟨_, _, rfl, rfl, q _ H (Same.refl H) (rBl _)⟩
  · cases e
theorem o_le : OpR X (compareOp .LtE) (P2 X.K le2) := by
  intro pins s sg H x y v u Q I rx ry h
  obtain ⟨G, io, st, u1, u2, u3, ok, r1, r2, e, q⟩ := h
  unfold le2 at e
  split at e
  · cases e; have e1 := r1.int'; have e2 := r2.int'; subst e1; subst e2
    exact op_le pins s sg H _ _ v u Q I rx ry ⟨_, _, rfl, rfl, q _ H (Same.refl H) (rBl _)⟩
  · cases e; have e1 := r1.str'; have e2 := r2.str'; subst e1; subst e2
    exact op_le_str pins s sg H _ _ v u Q I rx ry ⟨_, _, rfl, rfl, q _ H (Same.refl H) (rBl _)⟩
  · cases e
theorem o_gt : OpR X (compareOp .Gt) (P2 X.K gt2) := by
  intro pins s sg H x y v u Q I rx ry h
  obtain ⟨G, io, st, u1, u2, u3, ok, r1, r2, e, q⟩ := h
  unfold gt2 at e
  split at e
  · cases e; have e1 := r1.int'; have e2 := r2.int'; subst e1; subst e2
    exact op_gt pins s sg H _ _ v u Q I rx ry ⟨_, _, rfl, rfl, q _ H (Same.refl H) (rBl _)⟩
  · cases e; have e1 := r1.str'; have e2 := r2.str'; subst e1; subst e2
    exact op_gt_str pins s sg H _ _ v u Q I rx ry ⟨_, _, rfl, rfl, q _ H (Same.refl H) (rBl _)⟩
  · cases e
theorem o_ge : OpR X (compareOp .GtE) (P2 X.K ge2) := by
  intro pins s sg H x y v u Q I rx ry h
  obtain ⟨G, io, st, u1, u2, u3, ok, r1, r2, e, q⟩ := h
  unfold ge2 at e
  split at e
  · cases e; have e1 := r1.int'; have e2 := r2.int'; subst e1; subst e2
    exact op_ge pins s sg H _ _ v u Q I rx ry ⟨_, _, rfl, rfl, q _ H (Same.refl H) (rBl _)⟩
  · cases e; have e1 := r1.str'; have e2 := r2.str'; subst e1; subst e2
    exact op_ge_str pins s sg H _ _ v u Q I rx ry ⟨_, _, rfl, rfl, q _ H (Same.refl H) (rBl _)⟩
  · cases e
end
end D
namespace D
open PySem L2
/-! ### == and != of data -/
/-- == of two things that are not both tuples or both lists -/
def eqP : U → U → Option Bool
  | .non, .non => some true
  | .non, .bl _ => some false
  | .non, .int _ => some false
  | .non, .str _ => some false
  | .non, .tup _ => some false
  | .non, .lst _ => some false
  | .bl _, .non => some false
  | .bl a1, .bl a2 => some (a1 == a2)
  | .bl a1, .int a2 => some ((if a1 then 1 else 0) == a2)
  | .bl _, .str _ => some false
  | .bl _, .tup _ => some false
  | .bl _, .lst _ => some false
  | .int _, .non => some false
  | .int a1, .bl a2 => some (a1 == (if a2 then 1 else 0))
  | .int a1, .int a2 => some (a1 == a2)
  | .int _, .str _ => some false
  | .int _, .tup _ => some false
  | .int _, .lst _ => some false
  | .str _, .non => some false
  | .str _, .bl _ => some false
  | .str _, .int _ => some false
  | .str a1, .str a2 => some (a1 == a2)
  | .str _, .tup _ => some false
  | .str _, .lst _ => some false
  | .tup _, .non => some false
  | .tup _, .bl _ => some false
  | .tup _, .int _ => some false
  | .tup _, .str _ => some false
  | .tup _, .lst _ => some false
  | .lst _, .non => some false
  | .lst _, .bl _ => some false
  | .lst _, .int _ => some false
  | .lst _, .str _ => some false
  | .lst _, .tup _ => some false
  | _, _ => none
structure Pairs (A : Around) (s : Shared) (f : Bool → Bool) (R : Value → Value → Bool → Prop) : Prop where
  none_none : ∀ (_ : True), R .none .none (f true)
  none_bool : ∀ (a2 : Bool), R .none (.bool a2) (f false)
  none_int : ∀ (a2 : Int) (t2 : Tok), R .none (.int a2 t2) (f false)
  none_str : ∀ (a2 : Str) (t2 : Tok), R .none (.str a2 t2) (f false)
  none_tuple : ∀ (l2 : Addr) (j2 : Array Value) (h2 : s.heap.IsTuple l2 j2), R .none (.ref l2) (f false)
  none_list : ∀ (l2 : Addr) (j2 : Array Value) (h2 : s.heap.IsList l2 j2), R .none (.ref l2) (f false)
  bool_none : ∀ (a1 : Bool), R (.bool a1) .none (f false)
  bool_bool : ∀ (a1 : Bool) (a2 : Bool), R (.bool a1) (.bool a2) (f (a1 == a2))
  bool_int : ∀ (a1 : Bool) (a2 : Int) (t2 : Tok), R (.bool a1) (.int a2 t2) (f ((if a1 then 1 else 0) == a2))
  bool_str : ∀ (a1 : Bool) (a2 : Str) (t2 : Tok), R (.bool a1) (.str a2 t2) (f false)
  bool_tuple : ∀ (a1 : Bool) (l2 : Addr) (j2 : Array Value) (h2 : s.heap.IsTuple l2 j2), R (.bool a1) (.ref l2) (f false)
  bool_list : ∀ (a1 : Bool) (l2 : Addr) (j2 : Array Value) (h2 : s.heap.IsList l2 j2), R (.bool a1) (.ref l2) (f false)
  int_none : ∀ (a1 : Int) (t1 : Tok), R (.int a1 t1) .none (f false)
  int_bool : ∀ (a1 : Int) (t1 : Tok) (a2 : Bool), R (.int a1 t1) (.bool a2) (f (a1 == (if a2 then 1 else 0)))
  int_int : ∀ (a1 : Int) (t1 : Tok) (a2 : Int) (t2 : Tok), R (.int a1 t1) (.int a2 t2) (f (a1 == a2))
  int_str : ∀ (a1 : Int) (t1 : Tok) (a2 : Str) (t2 : Tok), R (.int a1 t1) (.str a2 t2) (f false)
  int_tuple : ∀ (a1 : Int) (t1 : Tok) (l2 : Addr) (j2 : Array Value) (h2 : s.heap.IsTuple l2 j2), R (.int a1 t1) (.ref l2) (f false)
  int_list : ∀ (a1 : Int) (t1 : Tok) (l2 : Addr) (j2 : Array Value) (h2 : s.heap.IsList l2 j2), R (.int a1 t1) (.ref l2) (f false)
  str_none : ∀ (a1 : Str) (t1 : Tok), R (.str a1 t1) .none (f false)
  str_bool : ∀ (a1 : Str) (t1 : Tok) (a2 : Bool), R (.str a1 t1) (.bool a2) (f false)
  str_int : ∀ (a1 : Str) (t1 : Tok) (a2 : Int) (t2 : Tok), R (.str a1 t1) (.int a2 t2) (f false)
  str_str : ∀ (a1 : Str) (t1 : Tok) (a2 : Str) (t2 : Tok), R (.str a1 t1) (.str a2 t2) (f (a1 == a2))
  str_tuple : ∀ (a1 : Str) (t1 : Tok) (l2 : Addr) (j2 : Array Value) (h2 : s.heap.IsTuple l2 j2), R (.str a1 t1) (.ref l2) (f false)
  str_list : ∀ (a1 : Str) (t1 : Tok) (l2 : Addr) (j2 : Array Value) (h2 : s.heap.IsList l2 j2), R (.str a1 t1) (.ref l2) (f false)
  tuple_none : ∀ (l1 : Addr) (j1 : Array Value) (h1 : s.heap.IsTuple l1 j1), R (.ref l1) .none (f false)
  tuple_bool : ∀ (l1 : Addr) (j1 : Array Value) (h1 : s.heap.IsTuple l1 j1) (a2 : Bool), R (.ref l1) (.bool a2) (f false)
  tuple_int : ∀ (l1 : Addr) (j1 : Array Value) (h1 : s.heap.IsTuple l1 j1) (a2 : Int) (t2 : Tok), R (.ref l1) (.int a2 t2) (f false)
  tuple_str : ∀ (l1 : Addr) (j1 : Array Value) (h1 : s.heap.IsTuple l1 j1) (a2 : Str) (t2 : Tok), R (.ref l1) (.str a2 t2) (f false)
  tuple_list : ∀ (l1 : Addr) (j1 : Array Value) (h1 : s.heap.IsTuple l1 j1) (l2 : Addr) (j2 : Array Value) (h2 : s.heap.IsList l2 j2), R (.ref l1) (.ref l2) (f false)
  list_none : ∀ (l1 : Addr) (j1 : Array Value) (h1 : s.heap.IsList l1 j1), R (.ref l1) .none (f false)
  list_bool : ∀ (l1 : Addr) (j1 : Array Value) (h1 : s.heap.IsList l1 j1) (a2 : Bool), R (.ref l1) (.bool a2) (f false)
  list_int : ∀ (l1 : Addr) (j1 : Array Value) (h1 : s.heap.IsList l1 j1) (a2 : Int) (t2 : Tok), R (.ref l1) (.int a2 t2) (f false)
  list_str : ∀ (l1 : Addr) (j1 : Array Value) (h1 : s.heap.IsList l1 j1) (a2 : Str) (t2 : Tok), R (.ref l1) (.str a2 t2) (f false)
  list_tuple : ∀ (l1 : Addr) (j1 : Array Value) (h1 : s.heap.IsList l1 j1) (l2 : Addr) (j2 : Array Value) (h2 : s.heap.IsTuple l2 j2), R (.ref l1) (.ref l2) (f false)
theorem pairs_eq {A : Around} {s : Shared} (hu : A.units < cLine) : Pairs A s id (SeqAt.EqAt A s) where
  none_none := fun _ => SeqAt.EqAt.same _
  none_bool := fun a2 => SeqAt.EqAt.none_bool a2
  none_int := fun a2 t2 => SeqAt.EqAt.none_int a2 t2
  none_str := fun a2 t2 => SeqAt.EqAt.none_str a2 t2
  none_tuple := fun _ _ h2 => SeqAt.EqAt.none_tuple h2 hu
  none_list := fun _ _ h2 => SeqAt.EqAt.none_list h2 hu
  bool_none := fun a1 => SeqAt.EqAt.bool_none a1
  bool_bool := fun a1 a2 => SeqAt.EqAt.bool_bool a1 a2
  bool_int := fun a1 a2 t2 => SeqAt.EqAt.bool_int a1 a2 t2
  bool_str := fun a1 a2 t2 => SeqAt.EqAt.bool_str a1 a2 t2
  bool_tuple := fun a1 _ _ h2 => SeqAt.EqAt.bool_tuple a1 h2 hu
  bool_list := fun a1 _ _ h2 => SeqAt.EqAt.bool_list a1 h2 hu
  int_none := fun a1 t1 => SeqAt.EqAt.int_none a1 t1
  int_bool := fun a1 t1 a2 => SeqAt.EqAt.int_bool a1 t1 a2
  int_int := fun a1 t1 a2 t2 => SeqAt.EqAt.int_int a1 t1 a2 t2
  int_str := fun a1 t1 a2 t2 => SeqAt.EqAt.int_str a1 t1 a2 t2
  int_tuple := fun a1 t1 _ _ h2 => SeqAt.EqAt.int_tuple a1 t1 h2 hu
  int_list := fun a1 t1 _ _ h2 => SeqAt.EqAt.int_list a1 t1 h2 hu
  str_none := fun a1 t1 => SeqAt.EqAt.str_none a1 t1
  str_bool := fun a1 t1 a2 => SeqAt.EqAt.str_bool a1 t1 a2
  str_int := fun a1 t1 a2 t2 => SeqAt.EqAt.str_int a1 t1 a2 t2
  str_str := fun a1 t1 a2 t2 => SeqAt.EqAt.str_str a1 t1 a2 t2
  str_tuple := fun a1 t1 _ _ h2 => SeqAt.EqAt.str_tuple a1 t1 h2 hu
  str_list := fun a1 t1 _ _ h2 => SeqAt.EqAt.str_list a1 t1 h2 hu
  tuple_none := fun _ _ h1 => SeqAt.EqAt.tuple_none h1 hu
  tuple_bool := fun _ _ h1 a2 => SeqAt.EqAt.tuple_bool a2 h1 hu
  tuple_int := fun _ _ h1 a2 t2 => SeqAt.EqAt.tuple_int a2 t2 h1 hu
  tuple_str := fun _ _ h1 a2 t2 => SeqAt.EqAt.tuple_str a2 t2 h1 hu
  tuple_list := fun _ _ h1 _ _ h2 => SeqAt.EqAt.tuple_list h1 h2 hu
  list_none := fun _ _ h1 => SeqAt.EqAt.list_none h1 hu
  list_bool := fun _ _ h1 a2 => SeqAt.EqAt.list_bool a2 h1 hu
  list_int := fun _ _ h1 a2 t2 => SeqAt.EqAt.list_int a2 t2 h1 hu
  list_str := fun _ _ h1 a2 t2 => SeqAt.EqAt.list_str a2 t2 h1 hu
  list_tuple := fun _ _ h1 _ _ h2 => SeqAt.EqAt.list_tuple h1 h2 hu
theorem pairs_rc {A : Around} {s : Shared} (hu : A.units < cLine) : Pairs A s id (SeqAt.RcAt A s) where
  none_none := fun _ => SeqAt.RcAt.none_none
  none_bool := fun a2 => SeqAt.RcAt.none_bool a2
  none_int := fun a2 t2 => SeqAt.RcAt.none_int a2 t2
  none_str := fun a2 t2 => SeqAt.RcAt.none_str a2 t2
  none_tuple := fun _ _ h2 => SeqAt.RcAt.none_tuple h2 hu
  none_list := fun _ _ h2 => SeqAt.RcAt.none_list h2 hu
  bool_none := fun a1 => SeqAt.RcAt.bool_none a1
  bool_bool := fun a1 a2 => SeqAt.RcAt.bool_bool a1 a2
  bool_int := fun a1 a2 t2 => SeqAt.RcAt.bool_int a1 a2 t2
  bool_str := fun a1 a2 t2 => SeqAt.RcAt.bool_str a1 a2 t2
  bool_tuple := fun a1 _ _ h2 => SeqAt.RcAt.bool_tuple a1 h2 hu
  bool_list := fun a1 _ _ h2 => SeqAt.RcAt.bool_list a1 h2 hu
  int_none := fun a1 t1 => SeqAt.RcAt.int_none a1 t1
  int_bool := fun a1 t1 a2 => SeqAt.RcAt.int_bool a1 t1 a2
  int_int := fun a1 t1 a2 t2 => SeqAt.RcAt.int_int a1 t1 a2 t2
  int_str := fun a1 t1 a2 t2 => SeqAt.RcAt.int_str a1 t1 a2 t2
  int_tuple := fun a1 t1 _ _ h2 => SeqAt.RcAt.int_tuple a1 t1 h2 hu
  int_list := fun a1 t1 _ _ h2 => SeqAt.RcAt.int_list a1 t1 h2 hu
  str_none := fun a1 t1 => SeqAt.RcAt.str_none a1 t1
  str_bool := fun a1 t1 a2 => SeqAt.RcAt.str_bool a1 t1 a2
  str_int := fun a1 t1 a2 t2 => SeqAt.RcAt.str_int a1 t1 a2 t2
  str_str := fun a1 t1 a2 t2 => SeqAt.RcAt.str_str a1 t1 a2 t2
  str_tuple := fun a1 t1 _ _ h2 => SeqAt.RcAt.str_tuple a1 t1 h2 hu
  str_list := fun a1 t1 _ _ h2 => SeqAt.RcAt.str_list a1 t1 h2 hu
  tuple_none := fun _ _ h1 => SeqAt.RcAt.tuple_none h1 hu
  tuple_bool := fun _ _ h1 a2 => SeqAt.RcAt.tuple_bool a2 h1 hu
  tuple_int := fun _ _ h1 a2 t2 => SeqAt.RcAt.tuple_int a2 t2 h1 hu
  tuple_str := fun _ _ h1 a2 t2 => SeqAt.RcAt.tuple_str a2 t2 h1 hu
  tuple_list := fun _ _ h1 _ _ h2 => SeqAt.RcAt.tuple_list h1 h2 hu
  list_none := fun _ _ h1 => SeqAt.RcAt.list_none h1 hu
  list_bool := fun _ _ h1 a2 => SeqAt.RcAt.list_bool a2 h1 hu
  list_int := fun _ _ h1 a2 t2 => SeqAt.RcAt.list_int a2 t2 h1 hu
  list_str := fun _ _ h1 a2 t2 => SeqAt.RcAt.list_str a2 t2 h1 hu
  list_tuple := fun _ _ h1 _ _ h2 => SeqAt.RcAt.list_tuple h1 h2 hu
theorem pairs_rn {A : Around} {s : Shared} (hu : A.units < cLine) : Pairs A s Bool.not (SeqAt.RcNeAt A s) where
  none_none := fun _ => SeqAt.RcNeAt.none_none
  none_bool := fun a2 => SeqAt.RcNeAt.none_bool a2
  none_int := fun a2 t2 => SeqAt.RcNeAt.none_int a2 t2
  none_str := fun a2 t2 => SeqAt.RcNeAt.none_str a2 t2
  none_tuple := fun _ _ h2 => SeqAt.RcNeAt.none_tuple h2 hu
  none_list := fun _ _ h2 => SeqAt.RcNeAt.none_list h2 hu
  bool_none := fun a1 => SeqAt.RcNeAt.bool_none a1
  bool_bool := fun a1 a2 => SeqAt.RcNeAt.bool_bool a1 a2
  bool_int := fun a1 a2 t2 => SeqAt.RcNeAt.bool_int a1 a2 t2
  bool_str := fun a1 a2 t2 => SeqAt.RcNeAt.bool_str a1 a2 t2
  bool_tuple := fun a1 _ _ h2 => SeqAt.RcNeAt.bool_tuple a1 h2 hu
  bool_list := fun a1 _ _ h2 => SeqAt.RcNeAt.bool_list a1 h2 hu
  int_none := fun a1 t1 => SeqAt.RcNeAt.int_none a1 t1
  int_bool := fun a1 t1 a2 => SeqAt.RcNeAt.int_bool a1 t1 a2
  int_int := fun a1 t1 a2 t2 => SeqAt.RcNeAt.int_int a1 t1 a2 t2
  int_str := fun a1 t1 a2 t2 => SeqAt.RcNeAt.int_str a1 t1 a2 t2
  int_tuple := fun a1 t1 _ _ h2 => SeqAt.RcNeAt.int_tuple a1 t1 h2 hu
  int_list := fun a1 t1 _ _ h2 => SeqAt.RcNeAt.int_list a1 t1 h2 hu
  str_none := fun a1 t1 => SeqAt.RcNeAt.str_none a1 t1
  str_bool := fun a1 t1 a2 => SeqAt.RcNeAt.str_bool a1 t1 a2
  str_int := fun a1 t1 a2 t2 => SeqAt.RcNeAt.str_int a1 t1 a2 t2
  str_str := fun a1 t1 a2 t2 => SeqAt.RcNeAt.str_str a1 t1 a2 t2
  str_tuple := fun a1 t1 _ _ h2 => SeqAt.RcNeAt.str_tuple a1 t1 h2 hu
  str_list := fun a1 t1 _ _ h2 => SeqAt.RcNeAt.str_list a1 t1 h2 hu
  tuple_none := fun _ _ h1 => SeqAt.RcNeAt.tuple_none h1 hu
  tuple_bool := fun _ _ h1 a2 => SeqAt.RcNeAt.tuple_bool a2 h1 hu
  tuple_int := fun _ _ h1 a2 t2 => SeqAt.RcNeAt.tuple_int a2 t2 h1 hu
  tuple_str := fun _ _ h1 a2 t2 => SeqAt.RcNeAt.tuple_str a2 t2 h1 hu
  tuple_list := fun _ _ h1 _ _ h2 => SeqAt.RcNeAt.tuple_list h1 h2 hu
  list_none := fun _ _ h1 => SeqAt.RcNeAt.list_none h1 hu
  list_bool := fun _ _ h1 a2 => SeqAt.RcNeAt.list_bool a2 h1 hu
  list_int := fun _ _ h1 a2 t2 => SeqAt.RcNeAt.list_int a2 t2 h1 hu
  list_str := fun _ _ h1 a2 t2 => SeqAt.RcNeAt.list_str a2 t2 h1 hu
  list_tuple := fun _ _ h1 _ _ h2 => SeqAt.RcNeAt.list_tuple h1 h2 hu
theorem pairs_at {X : Cx} {pins : List (Addr × Obj)} {sg : L2.St} {H : Hp} {s : Shared} {W : Addr → Prop} {io : List Addr} (I : Inv X pins sg H s) {A : Around} {f : Bool → Bool} {R : Value → Value → Bool → Prop} (P : Pairs A s f R) : ∀ (u1 u2 : U) {x1 x2 : V} {v1 v2 : Value} {b : Bool}, Rep X.K W io H u1 x1 → Rep X.K W io H u2 x2 → RelV x1 v1 → RelV x2 v2 → eqP u1 u2 = some b → R v1 v2 (f b)
  | .non, .non, x1, x2, v1, v2, b, r1, r2, rv1, rv2, e => by
    have e1 := r1.non'; subst e1; have z1 : v1 = Value.none := rv1; subst z1
    have e2 := r2.non'; subst e2; have z2 : v2 = Value.none := rv2; subst z2
    cases e; exact P.none_none trivial
  | .non, .bl a2, x1, x2, v1, v2, b, r1, r2, rv1, rv2, e => by
    have e1 := r1.non'; subst e1; have z1 : v1 = Value.none := rv1; subst z1
    have e2 := r2.bl'; subst e2; have z2 : v2 = Value.bool a2 := rv2; subst z2
    cases e; exact P.none_bool a2
  | .non, .int a2, x1, x2, v1, v2, b, r1, r2, rv1, rv2, e => by
    have e1 := r1.non'; subst e1; have z1 : v1 = Value.none := rv1; subst z1
    have e2 := r2.int'; subst e2; obtain ⟨t2, z2⟩ := rv2; subst z2
    cases e; exact P.none_int a2 t2
  | .non, .str a2, x1, x2, v1, v2, b, r1, r2, rv1, rv2, e => by
    have e1 := r1.non'; subst e1; have z1 : v1 = Value.none := rv1; subst z1
    have e2 := r2.str'; subst e2; obtain ⟨t2, z2⟩ := rv2; subst z2
    cases e; exact P.none_str a2 t2
  | .non, .tup us2, x1, x2, v1, v2, b, r1, r2, rv1, rv2, e => by
    have e1 := r1.non'; subst e1; have z1 : v1 = Value.none := rv1; subst z1
    obtain ⟨l2, vs2, e2, q2, p2⟩ := r2.tup'; subst e2; have z2 : v2 = Value.ref l2 := rv2; subst z2; obtain ⟨its2, w2, h2, _⟩ := I.tuple q2.sq
    cases e; exact P.none_tuple _ _ h2
  | .non, .lst us2, x1, x2, v1, v2, b, r1, r2, rv1, rv2, e => by
    have e1 := r1.non'; subst e1; have z1 : v1 = Value.none := rv1; subst z1
    obtain ⟨l2, vs2, e2, q2, p2⟩ := r2.lst'; subst e2; have z2 : v2 = Value.ref l2 := rv2; subst z2; obtain ⟨its2, w2, g2, _⟩ := I.list q2.sq; have h2 := g2.isList
    cases e; exact P.none_list _ _ h2
  | .bl a1, .non, x1, x2, v1, v2, b, r1, r2, rv1, rv2, e => by
    have e1 := r1.bl'; subst e1; have z1 : v1 = Value.bool a1 := rv1; subst z1
    have e2 := r2.non'; subst e2; have z2 : v2 = Value.none := rv2; subst z2
    cases e; exact P.bool_none a1
  | .bl a1, .bl a2, x1, x2, v1, v2, b, r1, r2, rv1, rv2, e => by
    have e1 := r1.bl'; subst e1; have z1 : v1 = Value.bool a1 := rv1; subst z1
    have e2 := r2.bl'; subst e2; have z2 : v2 = Value.bool a2 := rv2; subst z2
    cases e; exact P.bool_bool a1 a2
  | .bl a1, .int a2, x1, x2, v1, v2, b, r1, r2, rv1, rv2, e => by
    have e1 := r1.bl'; subst e1; have z1 : v1 = Value.bool a1 := rv1; subst z1
    have e2 := r2.int'; subst e2; obtain ⟨t2, z2⟩ := rv2; subst z2
    cases e; exact P.bool_int a1 a2 t2
  | .bl a1, .str a2, x1, x2, v1, v2, b, r1, r2, rv1, rv2, e => by
    have e1 := r1.bl'; subst e1; have z1 : v1 = Value.bool a1 := rv1; subst z1
    have e2 := r2.str'; subst e2; obtain ⟨t2, z2⟩ := rv2; subst z2
    cases e; exact P.bool_str a1 a2 t2
  | .bl a1, .tup us2, x1, x2, v1, v2, b, r1, r2, rv1, rv2, e => by
    have e1 := r1.bl'; subst e1; have z1 : v1 = Value.bool a1 := rv1; subst z1
    obtain ⟨l2, vs2, e2, q2, p2⟩ := r2.tup'; subst e2; have z2 : v2 = Value.ref l2 := rv2; subst z2; obtain ⟨its2, w2, h2, _⟩ := I.tuple q2.sq
    cases e; exact P.bool_tuple a1 _ _ h2
  | .bl a1, .lst us2, x1, x2, v1, v2, b, r1, r2, rv1, rv2, e => by
    have e1 := r1.bl'; subst e1; have z1 : v1 = Value.bool a1 := rv1; subst z1
    obtain ⟨l2, vs2, e2, q2, p2⟩ := r2.lst'; subst e2; have z2 : v2 = Value.ref l2 := rv2; subst z2; obtain ⟨its2, w2, g2, _⟩ := I.list q2.sq; have h2 := g2.isList
    cases e; exact P.bool_list a1 _ _ h2
  | .int a1, .non, x1, x2, v1, v2, b, r1, r2, rv1, rv2, e => by
    have e1 := r1.int'; subst e1; obtain ⟨t1, z1⟩ := rv1; subst z1
    have e2 := r2.non'; subst e2; have z2 : v2 = Value.none := rv2; subst z2
    cases e; exact P.int_none a1 t1
  | .int a1, .bl a2, x1, x2, v1, v2, b, r1, r2, rv1, rv2, e => by
    have e1 := r1.int'; subst e1; obtain ⟨t1, z1⟩ := rv1; subst z1
    have e2 := r2.bl'; subst e2; have z2 : v2 = Value.bool a2 := rv2; subst z2
    cases e; exact P.int_bool a1 t1 a2
  | .int a1, .int a2, x1, x2, v1, v2, b, r1, r2, rv1, rv2, e => by
    have e1 := r1.int'; subst e1; obtain ⟨t1, z1⟩ := rv1; subst z1
    have e2 := r2.int'; subst e2; obtain ⟨t2, z2⟩ := rv2; subst z2
    cases e; exact P.int_int a1 t1 a2 t2
  | .int a1, .str a2, x1, x2, v1, v2, b, r1, r2, rv1, rv2, e => by
    have e1 := r1.int'; subst e1; obtain ⟨t1, z1⟩ := rv1; subst z1
    have e2 := r2.str'; subst e2; obtain ⟨t2, z2⟩ := rv2; subst z2
    cases e; exact P.int_str a1 t1 a2 t2
  | .int a1, .tup us2, x1, x2, v1, v2, b, r1, r2, rv1, rv2, e => by
    have e1 := r1.int'; subst e1; obtain ⟨t1, z1⟩ := rv1; subst z1
    obtain ⟨l2, vs2, e2, q2, p2⟩ := r2.tup'; subst e2; have z2 : v2 = Value.ref l2 := rv2; subst z2; obtain ⟨its2, w2, h2, _⟩ := I.tuple q2.sq
    cases e; exact P.int_tuple a1 t1 _ _ h2
  | .int a1, .lst us2, x1, x2, v1, v2, b, r1, r2, rv1, rv2, e => by
    have e1 := r1.int'; subst e1; obtain ⟨t1, z1⟩ := rv1; subst z1
    obtain ⟨l2, vs2, e2, q2, p2⟩ := r2.lst'; subst e2; have z2 : v2 = Value.ref l2 := rv2; subst z2; obtain ⟨its2, w2, g2, _⟩ := I.list q2.sq; have h2 := g2.isList
    cases e; exact P.int_list a1 t1 _ _ h2
  | .str a1, .non, x1, x2, v1, v2, b, r1, r2, rv1, rv2, e => by
    have e1 := r1.str'; subst e1; obtain ⟨t1, z1⟩ := rv1; subst z1
    have e2 := r2.non'; subst e2; have z2 : v2 = Value.none := rv2; subst z2
    cases e; exact P.str_none a1 t1
  | .str a1, .bl a2, x1, x2, v1, v2, b, r1, r2, rv1, rv2, e => by
    have e1 := r1.str'; subst e1; obtain ⟨t1, z1⟩ := rv1; subst z1
    have e2 := r2.bl'; subst e2; have z2 : v2 = Value.bool a2 := rv2; subst z2
    cases e; exact P.str_bool a1 t1 a2
  | .str a1, .int a2, x1, x2, v1, v2, b, r1, r2, rv1, rv2, e => by
    have e1 := r1.str'; subst e1; obtain ⟨t1, z1⟩ := rv1; subst z1
    have e2 := r2.int'; subst e2; obtain ⟨t2, z2⟩ := rv2; subst z2
    cases e; exact P.str_int a1 t1 a2 t2
  | .str a1, .str a2, x1, x2, v1, v2, b, r1, r2, rv1, rv2, e => by
    have e1 := r1.str'; subst e1; obtain ⟨t1, z1⟩ := rv1; subst z1
    have e2 := r2.str'; subst e2; obtain ⟨t2, z2⟩ := rv2; subst z2
    cases e; exact P.str_str a1 t1 a2 t2
  | .str a1, .tup us2, x1, x2, v1, v2, b, r1, r2, rv1, rv2, e => by
    have e1 := r1.str'; subst e1; obtain ⟨t1, z1⟩ := rv1; subst z1
    obtain ⟨l2, vs2, e2, q2, p2⟩ := r2.tup'; subst e2; have z2 : v2 = Value.ref l2 := rv2; subst z2; obtain ⟨its2, w2, h2, _⟩ := I.tuple q2.sq
    cases e; exact P.str_tuple a1 t1 _ _ h2
  | .str a1, .lst us2, x1, x2, v1, v2, b, r1, r2, rv1, rv2, e => by
    have e1 := r1.str'; subst e1; obtain ⟨t1, z1⟩ := rv1; subst z1
    obtain ⟨l2, vs2, e2, q2, p2⟩ := r2.lst'; subst e2; have z2 : v2 = Value.ref l2 := rv2; subst z2; obtain ⟨its2, w2, g2, _⟩ := I.list q2.sq; have h2 := g2.isList
    cases e; exact P.str_list a1 t1 _ _ h2
  | .tup us1, .non, x1, x2, v1, v2, b, r1, r2, rv1, rv2, e => by
    obtain ⟨l1, vs1, e1, q1, p1⟩ := r1.tup'; subst e1; have z1 : v1 = Value.ref l1 := rv1; subst z1; obtain ⟨its1, w1, h1, _⟩ := I.tuple q1.sq
    have e2 := r2.non'; subst e2; have z2 : v2 = Value.none := rv2; subst z2
    cases e; exact P.tuple_none _ _ h1
  | .tup us1, .bl a2, x1, x2, v1, v2, b, r1, r2, rv1, rv2, e => by
    obtain ⟨l1, vs1, e1, q1, p1⟩ := r1.tup'; subst e1; have z1 : v1 = Value.ref l1 := rv1; subst z1; obtain ⟨its1, w1, h1, _⟩ := I.tuple q1.sq
    have e2 := r2.bl'; subst e2; have z2 : v2 = Value.bool a2 := rv2; subst z2
    cases e; exact P.tuple_bool _ _ h1 a2
  | .tup us1, .int a2, x1, x2, v1, v2, b, r1, r2, rv1, rv2, e => by
    obtain ⟨l1, vs1, e1, q1, p1⟩ := r1.tup'; subst e1; have z1 : v1 = Value.ref l1 := rv1; subst z1; obtain ⟨its1, w1, h1, _⟩ := I.tuple q1.sq
    have e2 := r2.int'; subst e2; obtain ⟨t2, z2⟩ := rv2; subst z2
    cases e; exact P.tuple_int _ _ h1 a2 t2
  | .tup us1, .str a2, x1, x2, v1, v2, b, r1, r2, rv1, rv2, e => by
    obtain ⟨l1, vs1, e1, q1, p1⟩ := r1.tup'; subst e1; have z1 : v1 = Value.ref l1 := rv1; subst z1; obtain ⟨its1, w1, h1, _⟩ := I.tuple q1.sq
    have e2 := r2.str'; subst e2; obtain ⟨t2, z2⟩ := rv2; subst z2
    cases e; exact P.tuple_str _ _ h1 a2 t2
  | .tup us1, .lst us2, x1, x2, v1, v2, b, r1, r2, rv1, rv2, e => by
    obtain ⟨l1, vs1, e1, q1, p1⟩ := r1.tup'; subst e1; have z1 : v1 = Value.ref l1 := rv1; subst z1; obtain ⟨its1, w1, h1, _⟩ := I.tuple q1.sq
    obtain ⟨l2, vs2, e2, q2, p2⟩ := r2.lst'; subst e2; have z2 : v2 = Value.ref l2 := rv2; subst z2; obtain ⟨its2, w2, g2, _⟩ := I.list q2.sq; have h2 := g2.isList
    cases e; exact P.tuple_list _ _ h1 _ _ h2
  | .lst us1, .non, x1, x2, v1, v2, b, r1, r2, rv1, rv2, e => by
    obtain ⟨l1, vs1, e1, q1, p1⟩ := r1.lst'; subst e1; have z1 : v1 = Value.ref l1 := rv1; subst z1; obtain ⟨its1, w1, g1, _⟩ := I.list q1.sq; have h1 := g1.isList
    have e2 := r2.non'; subst e2; have z2 : v2 = Value.none := rv2; subst z2
    cases e; exact P.list_none _ _ h1
  | .lst us1, .bl a2, x1, x2, v1, v2, b, r1, r2, rv1, rv2, e => by
    obtain ⟨l1, vs1, e1, q1, p1⟩ := r1.lst'; subst e1; have z1 : v1 = Value.ref l1 := rv1; subst z1; obtain ⟨its1, w1, g1, _⟩ := I.list q1.sq; have h1 := g1.isList
    have e2 := r2.bl'; subst e2; have z2 : v2 = Value.bool a2 := rv2; subst z2
    cases e; exact P.list_bool _ _ h1 a2
  | .lst us1, .int a2, x1, x2, v1, v2, b, r1, r2, rv1, rv2, e => by
    obtain ⟨l1, vs1, e1, q1, p1⟩ := r1.lst'; subst e1; have z1 : v1 = Value.ref l1 := rv1; subst z1; obtain ⟨its1, w1, g1, _⟩ := I.list q1.sq; have h1 := g1.isList
    have e2 := r2.int'; subst e2; obtain ⟨t2, z2⟩ := rv2; subst z2
    cases e; exact P.list_int _ _ h1 a2 t2
  | .lst us1, .str a2, x1, x2, v1, v2, b, r1, r2, rv1, rv2, e => by
    obtain ⟨l1, vs1, e1, q1, p1⟩ := r1.lst'; subst e1; have z1 : v1 = Value.ref l1 := rv1; subst z1; obtain ⟨its1, w1, g1, _⟩ := I.list q1.sq; have h1 := g1.isList
    have e2 := r2.str'; subst e2; obtain ⟨t2, z2⟩ := rv2; subst z2
    cases e; exact P.list_str _ _ h1 a2 t2
  | .lst us1, .tup us2, x1, x2, v1, v2, b, r1, r2, rv1, rv2, e => by
    obtain ⟨l1, vs1, e1, q1, p1⟩ := r1.lst'; subst e1; have z1 : v1 = Value.ref l1 := rv1; subst z1; obtain ⟨its1, w1, g1, _⟩ := I.list q1.sq; have h1 := g1.isList
    obtain ⟨l2, vs2, e2, q2, p2⟩ := r2.tup'; subst e2; have z2 : v2 = Value.ref l2 := rv2; subst z2; obtain ⟨its2, w2, h2, _⟩ := I.tuple q2.sq
    cases e; exact P.list_tuple _ _ h1 _ _ h2
  | .tup us1, .tup us2, _, _, _, _, _, _, _, _, _, h => nomatch h
  | .lst us1, .lst us2, _, _, _, _, _, _, _, _, _, h => nomatch h
  | .dct _ _, u2, _, _, _, _, _, _, _, _, _, h => by cases u2 <;> cases h
  | .non, .dct _ _, _, _, _, _, _, _, _, _, _, h => nomatch h
  | .bl _, .dct _ _, _, _, _, _, _, _, _, _, _, h => nomatch h
  | .int _, .dct _ _, _, _, _, _, _, _, _, _, _, h => nomatch h
  | .str _, .dct _ _, _, _, _, _, _, _, _, _, _, h => nomatch h
  | .tup _, .dct _ _, _, _, _, _, _, _, _, _, _, h => nomatch h
  | .lst _, .dct _ _, _, _, _, _, _, _, _, _, _, h => nomatch h
  | .ref _, u2, _, _, _, _, _, _, _, _, _, h => by cases u2 <;> cases h
  | .non, .ref _, _, _, _, _, _, _, _, _, _, h => nomatch h
  | .bl _, .ref _, _, _, _, _, _, _, _, _, _, h => nomatch h
  | .int _, .ref _, _, _, _, _, _, _, _, _, _, h => nomatch h
  | .str _, .ref _, _, _, _, _, _, _, _, _, _, h => nomatch h
  | .tup _, .ref _, _, _, _, _, _, _, _, _, _, h => nomatch h
  | .lst _, .ref _, _, _, _, _, _, _, _, _, _, h => nomatch h
  | .ty _, u2, _, _, _, _, _, _, _, _, _, h => by cases u2 <;> cases h
  | .non, .ty _, _, _, _, _, _, _, _, _, _, h => nomatch h
  | .bl _, .ty _, _, _, _, _, _, _, _, _, _, h => nomatch h
  | .int _, .ty _, _, _, _, _, _, _, _, _, _, h => nomatch h
  | .str _, .ty _, _, _, _, _, _, _, _, _, _, h => nomatch h
  | .tup _, .ty _, _, _, _, _, _, _, _, _, _, h => nomatch h
  | .lst _, .ty _, _, _, _, _, _, _, _, _, _, h => nomatch h
  | .scr _, u2, _, _, _, _, _, _, _, _, _, h => by cases u2 <;> cases h
  | .non, .scr _, _, _, _, _, _, _, _, _, _, h => nomatch h
  | .bl _, .scr _, _, _, _, _, _, _, _, _, _, h => nomatch h
  | .int _, .scr _, _, _, _, _, _, _, _, _, _, h => nomatch h
  | .str _, .scr _, _, _, _, _, _, _, _, _, _, h => nomatch h
  | .tup _, .scr _, _, _, _, _, _, _, _, _, _, h => nomatch h
  | .lst _, .scr _, _, _, _, _, _, _, _, _, _, h => nomatch h

def eqZ (f : U → U → Option Bool) : List U → List U → Option Bool
  | u :: us, v :: vs => match f u v, eqZ f us vs with
    | some a, some b => some (a && b)
    | _, _ => none
  | _, _ => some true
def eqF : Nat → U → U → Option Bool
  | 0, _, _ => none
  | n + 1, .tup us, .tup vs => (eqZ (eqF n) us vs).map (fun b => b && decide (us.length = vs.length))
  | n + 1, .lst us, .lst vs => if us.length = vs.length then eqZ (eqF n) us vs else some false
  | _ + 1, u, v => eqP u v
theorem eqZ_get {f : U → U → Option Bool} : ∀ {us vs : List U} {b : Bool}, eqZ f us vs = some b → ∀ (j : Nat) (u v : U), us[j]? = some u → vs[j]? = some v → ∃ c, f u v = some c ∧ (b = true → c = true)
  | [], _, _, _, _, _, _, e, _ => by simp at e
  | _ :: _, [], _, _, _, _, _, _, e => by simp at e
  | u :: us, v :: vs, b, h, j, u', v', e1, e2 => by
    unfold eqZ at h
    split at h
    · rename_i a c ha hc
      cases h
      cases j with
      | zero =>
        simp at e1 e2; subst e1; subst e2
        exact ⟨a, ha, fun z => (Bool.and_eq_true_iff.mp z).1⟩
      | succ j =>
        obtain ⟨d, h1, h2⟩ := eqZ_get hc j u' v' (by simpa using e1) (by simpa using e2)
        exact ⟨d, h1, fun z => h2 (Bool.and_eq_true_iff.mp z).2⟩
    · cases h
theorem eqZ_all {f : U → U → Option Bool} : ∀ {us vs : List U} {b : Bool}, eqZ f us vs = some b → (∀ (j : Nat) (u v : U), us[j]? = some u → vs[j]? = some v → f u v = some true) → b = true
  | [], _, _, h, _ => by unfold eqZ at h; cases h; rfl
  | _ :: _, [], _, h, _ => by unfold eqZ at h; cases h; rfl
  | u :: us, v :: vs, b, h, k => by
    unfold eqZ at h
    split at h
    · rename_i a c ha hc
      cases h
      have h1 := k 0 u v rfl rfl
      rw [ha] at h1; cases h1
      have h2 := eqZ_all hc fun j u' v' e1 e2 => k (j + 1) u' v' (by simpa using e1) (by simpa using e2)
      subst h2; rfl
    · cases h
theorem eqF_mix (n : Nat) (u w : U) (h1 : ¬ ∃ us vs, u = .tup us ∧ w = .tup vs) (h2 : ¬ ∃ us vs, u = .lst us ∧ w = .lst vs) : eqF (n + 1) u w = eqP u w := by
  unfold eqF
  split
  · rename_i h; cases h
  · exact (h1 ⟨_, _, rfl, rfl⟩).elim
  · exact (h2 ⟨_, _, rfl, rfl⟩).elim
  · rfl
section
variable {X : Cx} {pins : List (Addr × Obj)} {sg : L2.St} {H : Hp} {s : Shared} {W : Addr → Prop} {io : List Addr}
theorem eqP_same (I : Inv X pins sg H s) : ∀ (u w : U) {x : V} {b : Bool}, Rep X.K W io H u x → Rep X.K W io H w x → eqP u w = some b → b = true := by
  intro u w x b r1 r2 e
  cases u with
  | non =>
    have e1 := r1.non'; subst e1
    cases w <;> first | (cases e; rfl) | cases e
    · cases r2.bl'
    · cases r2.int'
    · cases r2.str'
    · obtain ⟨_, _, z, _⟩ := r2.tup'; cases z
    · obtain ⟨_, _, z, _⟩ := r2.lst'; cases z
  | bl c =>
    have e1 := r1.bl'; subst e1
    cases w with
    | bl d => cases r2.bl'; cases e; simp
    | non => cases r2.non'
    | int i => cases r2.int'
    | str i => cases r2.str'
    | tup us => obtain ⟨_, _, z, _⟩ := r2.tup'; cases z
    | lst us => obtain ⟨_, _, z, _⟩ := r2.lst'; cases z
    | _ => cases e
  | int c =>
    have e1 := r1.int'; subst e1
    cases w with
    | int d => cases r2.int'; cases e; simp
    | non => cases r2.non'
    | bl i => cases r2.bl'
    | str i => cases r2.str'
    | tup us => obtain ⟨_, _, z, _⟩ := r2.tup'; cases z
    | lst us => obtain ⟨_, _, z, _⟩ := r2.lst'; cases z
    | _ => cases e
  | str c =>
    have e1 := r1.str'; subst e1
    cases w with
    | str d => cases r2.str'; cases e; simp
    | non => cases r2.non'
    | bl i => cases r2.bl'
    | int i => cases r2.int'
    | tup us => obtain ⟨_, _, z, _⟩ := r2.tup'; cases z
    | lst us => obtain ⟨_, _, z, _⟩ := r2.lst'; cases z
    | _ => cases e
  | tup us =>
    obtain ⟨a, vs, e1, l, _⟩ := r1.tup'; subst e1
    cases w with
    | non => cases r2.non'
    | bl i => cases r2.bl'
    | int i => cases r2.int'
    | str i => cases r2.str'
    | lst us =>
      obtain ⟨_, _, z, l2, _⟩ := r2.lst'; cases z
      obtain ⟨_, _, h1, _⟩ := I.tuple l.sq
      obtain ⟨_, _, h2, _⟩ := I.list l2.sq
      exact (SeqAt.ne_of_list_tuple h2.isList h1 rfl).elim
    | _ => cases e
  | lst us =>
    obtain ⟨a, vs, e1, l, _⟩ := r1.lst'; subst e1
    cases w with
    | non => cases r2.non'
    | bl i => cases r2.bl'
    | int i => cases r2.int'
    | str i => cases r2.str'
    | tup us =>
      obtain ⟨_, _, z, l2, _⟩ := r2.tup'; cases z
      obtain ⟨_, _, h1, _⟩ := I.tuple l2.sq
      obtain ⟨_, _, h2, _⟩ := I.list l.sq
      exact (SeqAt.ne_of_list_tuple h2.isList h1 rfl).elim
    | _ => cases e
  | _ => cases w <;> cases e
theorem eqZ_same {f : U → U → Option Bool} {us ws : List U} {vs : List V} {b : Bool} (r1 : Reps X.K W io H us vs) (r2 : Reps X.K W io H ws vs) (ih : ∀ (u w : U) (x : V) (b : Bool), Rep X.K W io H u x → Rep X.K W io H w x → f u w = some b → b = true) (h : eqZ f us ws = some b) : b = true := by
  refine eqZ_all h fun j u v e1 e2 => ?_
  obtain ⟨c, h1, _⟩ := eqZ_get h j u v e1 e2
  obtain ⟨x, g1, p1⟩ := r1.get e1
  obtain ⟨y, g2, p2⟩ := r2.get e2
  rw [g1] at g2; cases g2
  rw [h1, ih u v x c p1 p2 h1]
theorem eqF_same (I : Inv X pins sg H s) : ∀ (n : Nat) (u w : U) (x : V) (b : Bool), Rep X.K W io H u x → Rep X.K W io H w x → eqF n u w = some b → b = true
  | 0, _, _, _, _, _, _, h => by unfold eqF at h; cases h
  | n + 1, u, w, x, b, r1, r2, h => by
    by_cases h1 : ∃ us vs, u = .tup us ∧ w = .tup vs
    · obtain ⟨us, ws, rfl, rfl⟩ := h1
      obtain ⟨a, vs, e1, l, p1⟩ := r1.tup'; subst e1
      obtain ⟨_, _, z, l2, p2⟩ := r2.tup'; cases z
      have e := I.tuple_inj l.sq l2.sq; subst e
      unfold eqF at h
      cases q : eqZ (eqF n) us ws with
      | none => rw [q] at h; cases h
      | some c =>
        rw [q] at h; cases h
        rw [eqZ_same p1 p2 (fun u w x b => eqF_same I n u w x b) q, p1.length, p2.length]
        simp
    · by_cases h2 : ∃ us vs, u = .lst us ∧ w = .lst vs
      · obtain ⟨us, ws, rfl, rfl⟩ := h2
        obtain ⟨a, vs, e1, l, p1⟩ := r1.lst'; subst e1
        obtain ⟨_, _, z, l2, p2⟩ := r2.lst'; cases z
        have e := I.list_inj l.sq l2.sq; subst e
        unfold eqF at h
        rw [if_pos (by rw [p1.length, p2.length])] at h
        exact eqZ_same p1 p2 (fun u w x b => eqF_same I n u w x b) h
      · rw [eqF_mix n u w h1 h2] at h
        exact eqP_same I u w r1 r2 h
def eT (f : U → U → Option Bool) (us ws : List U) (j : Nat) : Bool := decide (f (us.getD j .non) (ws.getD j .non) = some true)
theorem eT_get {f : U → U → Option Bool} {us ws : List U} {j : Nat} {u w : U} {b : Bool} (h1 : us[j]? = some u) (h2 : ws[j]? = some w) (h : f u w = some b) : eT f us ws j = b := by
  unfold eT
  rw [List.getD_eq_getElem?_getD, List.getD_eq_getElem?_getD, h1, h2, Option.getD_some, Option.getD_some, h]
  cases b <;> simp
theorem eT_all {f : U → U → Option Bool} : ∀ {us ws : List U} {b : Bool}, eqZ f us ws = some b → (List.range (min us.length ws.length)).all (eT f us ws) = b
  | us, ws, b, h => by
    cases b with
    | true =>
      rw [List.all_eq_true]
      intro j hj
      have hj := List.mem_range.mp hj
      have l1 : j < us.length := by omega
      have l2 : j < ws.length := by omega
      obtain ⟨c, h1, h2⟩ := eqZ_get h j us[j] ws[j] (List.getElem?_eq_getElem l1) (List.getElem?_eq_getElem l2)
      rw [eT_get (List.getElem?_eq_getElem l1) (List.getElem?_eq_getElem l2) h1, h2 rfl]
    | false =>
      cases q : (List.range (min us.length ws.length)).all (eT f us ws) with
      | false => rfl
      | true =>
        rw [List.all_eq_true] at q
        exact absurd (eqZ_all h fun j u v e1 e2 => by
          obtain ⟨c, h1, _⟩ := eqZ_get h j u v e1 e2
          have := q j (List.mem_range.mpr (by have := (List.getElem?_eq_some_iff.mp e1).1; have := (List.getElem?_eq_some_iff.mp e2).1; omega))
          rw [eT_get e1 e2 h1] at this
          rw [h1, this]) (by decide)
theorem items_at {f : U → U → Option Bool} {A : Around} {us ws : List U} {vs xs : List V} {its jts : List Value} {b : Bool} (r1 : Reps X.K W io H us vs) (r2 : Reps X.K W io H ws xs) (v1 : Vals vs its) (v2 : Vals xs jts)
    (ih : ∀ (u w : U) (x y : V) (v v' : Value) (b : Bool), Rep X.K W io H u x → Rep X.K W io H w y → RelV x v → RelV y v' → f u w = some b → SeqAt.EqAt A s v v' b) (h : eqZ f us ws = some b) :
    ∀ j (h1 : j < its.toArray.size) (h2 : j < jts.toArray.size), SeqAt.EqAt A s its.toArray[j] jts.toArray[j] (eT f us ws j) := by
  intro j h1 h2
  have l1 : j < its.length := by simpa using h1
  have l2 : j < jts.length := by simpa using h2
  have k1 : j < us.length := by rw [r1.length, v1.length]; exact l1
  have k2 : j < ws.length := by rw [r2.length, v2.length]; exact l2
  obtain ⟨c, q1, _⟩ := eqZ_get h j us[j] ws[j] (List.getElem?_eq_getElem k1) (List.getElem?_eq_getElem k2)
  obtain ⟨x, g1, p1⟩ := r1.get (List.getElem?_eq_getElem k1)
  obtain ⟨y, g2, p2⟩ := r2.get (List.getElem?_eq_getElem k2)
  obtain ⟨v, m1, n1⟩ := v1.get g1
  obtain ⟨v', m2, n2⟩ := v2.get g2
  rw [eT_get (List.getElem?_eq_getElem k1) (List.getElem?_eq_getElem k2) q1]
  have a1 : its.toArray[j] = v := by
    have := List.getElem?_eq_getElem l1
    rw [m1] at this
    simpa using (Option.some.inj this).symm
  have a2 : jts.toArray[j] = v' := by
    have := List.getElem?_eq_getElem l2
    rw [m2] at this
    simpa using (Option.some.inj this).symm
  rw [a1, a2]
  exact ih _ _ x y v v' c p1 p2 n1 n2 q1
/-- the seqs' part, for == and for != -/
structure Seqs (A : Around) (s : Shared) (f : Bool → Bool) (R : Value → Value → Bool → Prop) : Prop where
  tuples : ∀ {l b : Addr} {items items2 : Array Value} {e : Nat → Bool}, s.heap.IsTuple l items → s.heap.IsTuple b items2 → (∀ j (h1 : j < items.size) (h2 : j < items2.size), SeqAt.EqAt A.in1 s items[j] items2[j] (e j)) → R (.ref l) (.ref b) (f ((List.range (min items.size items2.size)).all e && items.size == items2.size))
  lists : ∀ {l b : Addr} {items items2 : Array Value} {e : Nat → Bool}, s.heap.IsList l items → s.heap.IsList b items2 → items.size = items2.size → (∀ j (h1 : j < items.size) (h2 : j < items2.size), SeqAt.EqAt A.in1 s items[j] items2[j] (e j)) → R (.ref l) (.ref b) (f ((List.range items.size).all e))
  lengths : ∀ {l b : Addr} {items items2 : Array Value}, s.heap.IsList l items → s.heap.IsList b items2 → (items.size != items2.size) = true → R (.ref l) (.ref b) (f false)
theorem seqs_rc {A : Around} (hu : A.units < cLine) : Seqs A s id (SeqAt.RcAt A s) := ⟨fun h1 h2 h => SeqAt.RcAt.tuples h1 h2 hu h, fun h1 h2 hz h => SeqAt.RcAt.lists h1 h2 hz hu h, fun h1 h2 hz => SeqAt.RcAt.lists_lengths h1 h2 hz hu⟩
theorem seqs_rn {A : Around} (hu : A.units < cLine) : Seqs A s Bool.not (SeqAt.RcNeAt A s) := ⟨fun h1 h2 h => SeqAt.RcNeAt.tuples h1 h2 hu h, fun h1 h2 hz h => SeqAt.RcNeAt.lists h1 h2 hz hu h, fun h1 h2 hz => SeqAt.RcNeAt.lists_lengths h1 h2 hz hu⟩
theorem eqF_step (I : Inv X pins sg H s) {n : Nat} {A : Around} {f : Bool → Bool} {R : Value → Value → Bool → Prop} (P : Pairs A s f R) (S : Seqs A s f R)
    (ih : ∀ (u w : U) (x y : V) (v v' : Value) (b : Bool), Rep X.K W io H u x → Rep X.K W io H w y → RelV x v → RelV y v' → eqF n u w = some b → SeqAt.EqAt A.in1 s v v' b)
    {u w : U} {x y : V} {v v' : Value} {b : Bool} (r1 : Rep X.K W io H u x) (r2 : Rep X.K W io H w y) (rv1 : RelV x v) (rv2 : RelV y v') (h : eqF (n + 1) u w = some b) : R v v' (f b) := by
  by_cases h1 : ∃ us vs, u = .tup us ∧ w = .tup vs
  · obtain ⟨us, ws, rfl, rfl⟩ := h1
    obtain ⟨a, vs, e1, l, p1⟩ := r1.tup'; subst e1
    obtain ⟨a', xs, e2, l2, p2⟩ := r2.tup'; subst e2
    cases (show v = Value.ref a from rv1)
    cases (show v' = Value.ref a' from rv2)
    obtain ⟨its, w1, t1, _⟩ := I.tuple l.sq
    obtain ⟨jts, w2, t2, _⟩ := I.tuple l2.sq
    unfold eqF at h
    cases q : eqZ (eqF n) us ws with
    | none => rw [q] at h; cases h
    | some c =>
      rw [q] at h; cases h
      have := S.tuples (e := eT (eqF n) us ws) t1 t2 (items_at p1 p2 w1 w2 ih q)
      rw [List.size_toArray, List.size_toArray, ← w1.length, ← w2.length, ← p1.length, ← p2.length, eT_all q] at this
      have e : (us.length == ws.length) = decide (us.length = ws.length) := by
        by_cases z : us.length = ws.length <;> simp [z]
      rw [e] at this
      exact this
  · by_cases h2 : ∃ us vs, u = .lst us ∧ w = .lst vs
    · obtain ⟨us, ws, rfl, rfl⟩ := h2
      obtain ⟨a, vs, e1, l, p1⟩ := r1.lst'; subst e1
      obtain ⟨a', xs, e2, l2, p2⟩ := r2.lst'; subst e2
      cases (show v = Value.ref a from rv1)
      cases (show v' = Value.ref a' from rv2)
      obtain ⟨its, w1, t1, _⟩ := I.list l.sq
      obtain ⟨jts, w2, t2, _⟩ := I.list l2.sq
      have z1 : its.toArray.size = us.length := by rw [List.size_toArray, ← w1.length, ← p1.length]
      have z2 : jts.toArray.size = ws.length := by rw [List.size_toArray, ← w2.length, ← p2.length]
      unfold eqF at h
      split at h
      · rename_i hz
        have := S.lists (e := eT (eqF n) us ws) t1.isList t2.isList (by rw [z1, z2, hz]) (items_at p1 p2 w1 w2 ih h)
        rw [z1] at this
        have e := eT_all h
        rw [← hz, Nat.min_self] at e
        rw [e] at this
        exact this
      · rename_i hz
        cases h
        exact S.lengths t1.isList t2.isList (by rw [z1, z2]; simpa using hz)
    · rw [eqF_mix n u w h1 h2] at h
      exact pairs_at I P u w r1 r2 rv1 rv2 h
theorem eqF_at (I : Inv X pins sg H s) : ∀ (n : Nat) (A : Around), A.units + n < cLine → ∀ (u w : U) (x y : V) (v v' : Value) (b : Bool), Rep X.K W io H u x → Rep X.K W io H w y → RelV x v → RelV y v' → eqF n u w = some b → SeqAt.EqAt A s v v' b
  | 0, _, _, _, _, _, _, _, _, _, _, _, _, _, h => by unfold eqF at h; cases h
  | n + 1, A, hu, u, w, x, y, v, v', b, r1, r2, rv1, rv2, h => by
    have ih := eqF_at I n A.in1 (by show A.units + 1 + n < cLine; omega)
    by_cases hx : (∃ a c, x = .ref a ∧ y = .ref c)
    · obtain ⟨a, c, rfl, rfl⟩ := hx
      cases (show v = Value.ref a from rv1)
      cases (show v' = Value.ref c from rv2)
      by_cases e : a = c
      · subst e
        rw [eqF_same I (n + 1) u w (.ref a) b r1 r2 h]
        exact SeqAt.EqAt.same _
      · exact SeqAt.EqAt.of_refs e (eqF_step I (pairs_rc (by omega)) (seqs_rc (by omega)) ih r1 r2 rv1 rv2 h)
    · rw [eqF_mix n u w (fun ⟨us, vs, e1, e2⟩ => hx (by
        subst e1; subst e2
        obtain ⟨a, _, z1, _⟩ := r1.tup'
        obtain ⟨c, _, z2, _⟩ := r2.tup'
        exact ⟨a, c, z1, z2⟩)) (fun ⟨us, vs, e1, e2⟩ => hx (by
        subst e1; subst e2
        obtain ⟨a, _, z1, _⟩ := r1.lst'
        obtain ⟨c, _, z2, _⟩ := r2.lst'
        exact ⟨a, c, z1, z2⟩))] at h
      exact pairs_at I (pairs_eq (by omega)) u w r1 r2 rv1 rv2 h
end
def eq2 (u v : U) : Option U := (eqF 60 u v).map U.bl
def ne2 (u v : U) : Option U := (eqF 60 u v).map fun b => U.bl (!b)
section
variable {X : Cx}
theorem o_eq (hu : X.A.units + 64 < cLine) : OpR X (compareOp .Eq) (P2 X.K eq2) := by
  intro pins s sg H x y v u Q I rx ry h
  obtain ⟨G, io, st, u1, u2, u3, ok, r1, r2, e, q⟩ := h
  unfold eq2 at e
  cases z : eqF 60 u1 u2 with
  | none => rw [z] at e; cases e
  | some b =>
    rw [z] at e; cases e
    exact eqF_step (n := 59) I (pairs_rc (by omega)) (seqs_rc (by omega)) (eqF_at I 59 X.A.in1 (by show X.A.units + 1 + 59 < cLine; omega)) r1 r2 rx ry z _ _ _ _ ⟨.bl b, H, I, rfl, q _ H (Same.refl H) (rBl _)⟩
theorem o_ne (hu : X.A.units + 64 < cLine) : OpR X (compareOp .NotEq) (P2 X.K ne2) := by
  intro pins s sg H x y v u Q I rx ry h
  obtain ⟨G, io, st, u1, u2, u3, ok, r1, r2, e, q⟩ := h
  unfold ne2 at e
  cases z : eqF 60 u1 u2 with
  | none => rw [z] at e; cases e
  | some b =>
    rw [z] at e; cases e
    exact eqF_step (n := 59) I (pairs_rn (by omega)) (seqs_rn (by omega)) (eqF_at I 59 X.A.in1 (by show X.A.units + 1 + 59 < cLine; omega)) r1 r2 rx ry z _ _ _ _ ⟨.bl (!b), H, I, rfl, q _ H (Same.refl H) (rBl _)⟩
end
end D
/-! DP: a text is no dict: == of a text and a dict -/
namespace D
open PySem L2
open AutoSeq1 (wpAny_loadPart')
theorem str_eq_declines_dict (b : Str) (u : Tok) (l : Addr) (c : Value) (es : Array DictEntry) (n : Nat) (dd : Option Addr) (sl : Array (Option Value)) :
    Meets (Builtin.«str.__eq__» ⟨[.str b u, .ref l], []⟩) (fun _ R s => s.heap.get? l = some { cls := c, dict := dd, data := .dict es n, slots := sl } ∧ R (.ok (.ret .notImplemented)) s) :=
  .of_wp fun prog w A R s h => by obtain ⟨hp, g, d, tk, os⟩ := s; obtain ⟨hl, h⟩ := h; wp_walk using wpAny_loadPart' hl, wpAny_load hl; exact ⟨_, rfl, h⟩
theorem dict_eq_declines_str {prog : Program} {w : World} {A : Around} {E : Value → Shared → Prop} {s : Shared} (b : Str) (u : Tok) (l : Addr) (hT : s.TypeIs (.ref l) "dict") (Q : Value → Shared → Prop) (h : Q .notImplemented s) :
    wpAny (model prog w) A (call (.builtin "dict.__eq__") [.ref l, .str b u]) Q E s := by
  refine wpAny_call_entry PySem.F.slot_dict_eq_refl hT PySem.F.entry_dict_eq ?_ (PySem.F.args_dict_eq_2 _ _)
  show wpAny _ _ (Builtin.Dict.dictSlotArgs "__eq__" ⟨[.ref l, .str b u], []⟩ >>= _) _ _ s
  refine wpAny_bind ?_
  unfold Builtin.Dict.dictSlotArgs
  refine wpAny_bind (wpAny_notOrdered_dict hT ?_)
  show wpAny _ _ (pure (Value.ref l, Value.str b u)) _ _ s
  refine wpAny_pure ?_
  refine wpAny_bind (wpAny_isInstance (T := "str") (typeIs_str s b u) PySem.F.sub_str_dict ?_)
  simp only [Bool.not_false, if_true]
  refine wpAny_bind (wpAny_rule ?_)
  exact wpAny_pure ⟨_, rfl, h⟩
theorem rc_str_dict {A : Around} {s : Shared} {l : Addr} {o : Obj} {es : Array DictEntry} {n : Nat} (ho : s.heap.get? l = some o) (hc : o.cls = .type "dict") (hd : o.data = .dict es n) (b : Str) (u : Tok) (hu : A.units < cLine) : SeqAt.RcAt A s (.str b u) (.ref l) false := fun prog w E Q h => by
  obtain ⟨cls, dd, data, sl⟩ := o
  simp only at hc hd
  subst hc hd
  have hT : s.TypeIs (.ref l) "dict" := ⟨_, ho, rfl⟩
  exact SeqAt.rc_eq_decline_or (k := false) (typeIs_str s b u) hT (by decide) F.sub_dict_str F.slot_str_eq F.slot_dict_eq_refl
    (fun _ hq => call_meets F.slot_str_eq (typeIs_str s b u) F.entry_str_eq (F.args_str_eq_2 _ _) (str_eq_declines_dict b u l (.type "dict") es n dd sl) ⟨ho, hq⟩)
    (fun _ hq => dict_eq_declines_str b u l hT _ hq)
    (fun _ hq => wpAny_of_eq (rfl : isSame (.str b u) (.ref l) = pure false) hq) (.inr hu) h
theorem eq_str_dict {A : Around} {s : Shared} {l : Addr} {o : Obj} {es : Array DictEntry} {n : Nat} (ho : s.heap.get? l = some o) (hc : o.cls = .type "dict") (hd : o.data = .dict es n) (b : Str) (u : Tok) (hu : A.units < cLine) : SeqAt.EqAt A s (.str b u) (.ref l) false := fun prog w E Q h => by
  unfold eqBool
  refine wpAny_holding ?_
  refine wpAny_ite_split (fun hab => absurd (eq_of_beq hab) nofun) (fun _ => ?_)
  exact wpAny_bind (rc_str_dict ho hc hd b u hu prog w E _ (wpAny_truthy_bool h))
/-- tuples, lists, dicts -/
def boxU : U → Bool
  | .tup _ => true
  | .lst _ => true
  | .dct _ _ => true
  | _ => false
def strU : U → Bool
  | .str _ => true
  | _ => false
section
variable {X : Cx} {pins : List (Addr × Obj)} {sg : St} {W : Addr → Prop} {io : List Addr} {H : Hp} {s : Shared} {A : Around}
theorem eq_str_box (I : Inv X pins sg H s) (hu : A.units < cLine) {x : U} {v : V} {r : Value} (hb : boxU x = true) (hr : Rep X.K W io H x v) (hv : RelV v r) (b : Str) (u : Tok) : SeqAt.EqAt A s (.str b u) r false := by
  cases x with
  | tup us =>
    obtain ⟨a, vs, rfl, l, _⟩ := hr.tup'
    cases hv
    obtain ⟨its, _, pl, _⟩ := I.tuple l.sq
    exact SeqAt.EqAt.str_tuple b u pl hu
  | lst us =>
    obtain ⟨a, vs, rfl, l, _⟩ := hr.lst'
    cases hv
    obtain ⟨its, _, pl, _⟩ := I.list l.sq
    exact SeqAt.EqAt.str_list b u pl.isList hu
  | dct ks us =>
    unfold Rep at hr
    obtain ⟨a, vs, rfl, l, _⟩ := hr
    cases hv
    rcases l.2 with ⟨kvs, e, _⟩ | ⟨kvs, e, _⟩
    · obtain ⟨_, _, vs, _, ob, es, ep, h1, h2, h3, _⟩ := dk_rd I.hok e
      exact eq_str_dict h1 h2.1 h3 b u hu
    · obtain ⟨_, _, vs, _, ob, es, ep, h1, h2, h3, _⟩ := dt_rd I.hok (.inl e)
      exact eq_str_dict h1 h2.1 h3 b u hu
  | _ => cases hb
theorem eq_strs_box (I : Inv X pins sg H s) (hu : A.units < cLine) {x : U} {v : V} {r : Value} (hb : boxU x = true) (hr : Rep X.K W io H x v) (hv : RelV v r) : ∀ {us : List U} {vs : List V} {rs : List Value}, us.all strU = true → Reps X.K W io H us vs → Vals vs rs → ∀ w ∈ rs, SeqAt.EqAt A s w r false
  | [], _, _, _, h, hs => fun w hw => by rw [h.isNil] at hs; cases hs; cases hw
  | u :: us, _, _, f, h, hs => fun w hw => by
    obtain ⟨v', r', rfl, q, t⟩ := h.uncons
    rw [List.all_cons, Bool.and_eq_true] at f
    cases hs with
    | cons ry rt =>
      rcases List.mem_cons.mp hw with rfl | hw
      · cases u with
        | str z => rw [q.str'] at ry; obtain ⟨t', rfl⟩ := ry; exact eq_str_box I hu hb hr hv z t'
        | _ => cases f.1
      · exact eq_strs_box I hu hb hr hv f.2 t rt w hw
end
section
variable {X : Cx} {W : Addr → Prop} {io : List Addr}
theorem op_in_box (hu : X.A.units + 65 < cLine) {pins s sg H x y v u} {Q : VK} (I : Inv X pins sg H s) (rx : RelV x v) (ry : RelV y u) {u1 : U} {us : List U} {a : Addr} {vs : List V} (hb : boxU u1 = true) (r1 : Rep X.K W io H u1 x) (hy : y = .ref a) (hq : SqL X.K H a vs ∨ SqT X.K H a vs) (hs : us.all strU = true) (rs : Reps X.K W io H us vs) (q : Q (.bl false) H) :
    wpAny (model X.prog X.w) X.A (compareOp .In v u) (EP X pins sg Q) X.xe s := by
  subst hy
  cases ry
  rcases hq with hq | hq
  · obtain ⟨its, r, pl, hz⟩ := I.list hq
    refine SeqAt.in_listAt (fun _ => false) pl.isList (fun w hw => eq_strs_box I (by show X.A.units + 1 < cLine; omega) hb r1 rx hs rs r w (by simpa using hw)) ⟨.bl _, H, I, rfl, ?_⟩
    rw [show its.toArray.any (fun _ => false) = false by simp]
    exact q
  · obtain ⟨its, r, pl, hz⟩ := I.tuple hq
    refine SeqAt.in_tupleAt (fun _ => false) pl (fun w hw => eq_strs_box I (by show X.A.units + 1 < cLine; omega) hb r1 rx hs rs r w (by simpa using hw)) ⟨.bl _, H, I, rfl, ?_⟩
    rw [show its.toArray.any (fun _ => false) = false by simp]
    exact q
theorem op_nin_box (hu : X.A.units + 65 < cLine) {pins s sg H x y v u} {Q : VK} (I : Inv X pins sg H s) (rx : RelV x v) (ry : RelV y u) {u1 : U} {us : List U} {a : Addr} {vs : List V} (hb : boxU u1 = true) (r1 : Rep X.K W io H u1 x) (hy : y = .ref a) (hq : SqL X.K H a vs ∨ SqT X.K H a vs) (hs : us.all strU = true) (rs : Reps X.K W io H us vs) (q : Q (.bl true) H) :
    wpAny (model X.prog X.w) X.A (compareOp .NotIn v u) (EP X pins sg Q) X.xe s := by
  subst hy
  cases ry
  rcases hq with hq | hq
  · obtain ⟨its, r, pl, hz⟩ := I.list hq
    refine SeqAt.notIn_listAt (fun _ => false) pl.isList (fun w hw => eq_strs_box I (by show X.A.units + 1 < cLine; omega) hb r1 rx hs rs r w (by simpa using hw)) ⟨.bl _, H, I, rfl, ?_⟩
    rw [show its.toArray.any (fun _ => false) = false by simp]
    exact q
  · obtain ⟨its, r, pl, hz⟩ := I.tuple hq
    refine SeqAt.notIn_tupleAt (fun _ => false) pl (fun w hw => eq_strs_box I (by show X.A.units + 1 < cLine; omega) hb r1 rx hs rs r w (by simpa using hw)) ⟨.bl _, H, I, rfl, ?_⟩
    rw [show its.toArray.any (fun _ => false) = false by simp]
    exact q
end
end D
namespace D
open PySem L2
/-! ### == -/
mutual
def pd : U → PyData
  | .non => .none
  | .bl b => .bool b
  | .int i => .int i
  | .str x => .str x
  | .tup us => .tuple (pds us)
  | .lst us => .list (pds us)
  | .dct _ _ => .dict []
  | .ref _ => .dict []
  | .ty _ => .dict []
  | .scr _ => .dict []
def pds : List U → List PyData
  | [] => []
  | u :: us => pd u :: pds us
end
mutual
theorem Rep.dp {K : PySem.W.Frag} {W : Addr → Prop} {io : List Addr} {H : Hp} : ∀ (u : U) (v : V), Rep K W io H u v → (pd u).canLay0 = true → Dp K H v (pd u)
  | .non, v, h, _ => by rw [h.non']; exact .non
  | .bl b, v, h, _ => by rw [h.bl']; exact .bl b
  | .int i, v, h, _ => by rw [h.int']; exact .int i
  | .str x, v, h, _ => by rw [h.str']; exact .str x
  | .tup us, v, h, c => by
    obtain ⟨a, vs, rfl, l, r⟩ := h.tup'
    unfold pd
    exact .tup l.sq (Reps.dp us vs r (by unfold pd PyData.canLay0 at c; exact c))
  | .lst us, v, h, c => by
    obtain ⟨a, vs, rfl, l, r⟩ := h.lst'
    unfold pd
    exact .lst l.sq (Reps.dp us vs r (by unfold pd PyData.canLay0 at c; exact c))
  | .dct _ _, v, h, c => by unfold pd PyData.canLay0 at c; cases c
  | .ref _, v, h, c => by unfold pd PyData.canLay0 at c; cases c
  | .ty _, v, h, c => by unfold pd PyData.canLay0 at c; cases c
  | .scr _, v, h, c => by unfold pd PyData.canLay0 at c; cases c
theorem Reps.dp {K : PySem.W.Frag} {W : Addr → Prop} {io : List Addr} {H : Hp} : ∀ (us : List U) (vs : List V), Reps K W io H us vs → PyData.canLayAll0 (pds us) = true → DpAll K H vs (pds us)
  | [], vs, h, _ => by rw [h.isNil]; exact .nil
  | u :: us, vs, h, c => by
    obtain ⟨v, r, rfl, q, t⟩ := h.uncons
    unfold pds PyData.canLayAll0 at c
    rw [Bool.and_eq_true] at c
    exact .cons (Rep.dp u v q c.1) (Reps.dp us r t c.2)
end
def okD (u : U) : Bool := SeqAt.shaped (pd u)
def eqU (u v : U) : Bool := PyData.eqv (pd u) (pd v)
/-! ### is -/
def is2 : U → U → Option U
  | .non, .non => some (.bl true)
  | .bl _, .non => some (.bl false)
  | .int _, .non => some (.bl false)
  | .str _, .non => some (.bl false)
  | .tup _, .non => some (.bl false)
  | .lst _, .non => some (.bl false)
  | .dct _ _, .non => some (.bl false)
  | .ref _, .non => some (.bl false)
  | .bl a, .bl b => some (.bl (decide (a = b)))
  | _, _ => none
def isnot2 : U → U → Option U
  | .non, .non => some (.bl false)
  | .bl _, .non => some (.bl true)
  | .int _, .non => some (.bl true)
  | .str _, .non => some (.bl true)
  | .tup _, .non => some (.bl true)
  | .lst _, .non => some (.bl true)
  | .dct _ _, .non => some (.bl true)
  | .ref _, .non => some (.bl true)
  | .bl a, .bl b => some (.bl (!decide (a = b)))
  | _, _ => none
/-! ### in -/
def flatU : U → Bool
  | .non => true
  | .bl _ => true
  | .int _ => true
  | .str _ => true
  | _ => false
def in2 : U → U → Option U
  | .str x, .str y => if x.cps.size = 1 then some (.bl (decide (x.cps.getD 0 0 ∈ y.cps.toList))) else none
  | x, .tup ys => if flatU x && ys.all flatU then some (.bl (ys.any fun y => eqU y x)) else if boxU x && ys.all strU then some (.bl false) else none
  | x, .lst ys => if flatU x && ys.all flatU then some (.bl (ys.any fun y => eqU y x)) else if boxU x && ys.all strU then some (.bl false) else if okD x && okD (.lst ys) then some (.bl (ys.any fun y => eqU y x)) else none
  | _, _ => none
def nin2 : U → U → Option U
  | .str x, .str y => if x.cps.size = 1 then some (.bl (!decide (x.cps.getD 0 0 ∈ y.cps.toList))) else none
  | x, .tup ys => if flatU x && ys.all flatU then some (.bl (!ys.any fun y => eqU y x)) else if boxU x && ys.all strU then some (.bl true) else none
  | x, .lst ys => if flatU x && ys.all flatU then some (.bl (!ys.any fun y => eqU y x)) else if boxU x && ys.all strU then some (.bl true) else if okD x && okD (.lst ys) then some (.bl (!ys.any fun y => eqU y x)) else none
  | _, _ => none
section
variable {K : PySem.W.Frag} {W : Addr → Prop} {io : List Addr} {H : Hp}
theorem flat_rep {u : U} {v : V} (f : flatU u = true) (h : Rep K W io H u v) : flatV v = true := by
  cases u with
  | non => rw [h.non']; rfl
  | bl b => rw [h.bl']; rfl
  | int b => rw [h.int']; rfl
  | str b => rw [h.str']; rfl
  | _ => cases f
theorem flats_rep : ∀ {us : List U} {vs : List V}, us.all flatU = true → Reps K W io H us vs → vs.all flatV = true
  | [], _, _, h => by rw [h.isNil]; rfl
  | u :: us, _, f, h => by
    obtain ⟨v, r, rfl, q, t⟩ := h.uncons
    rw [List.all_cons, Bool.and_eq_true] at f
    rw [List.all_cons, flat_rep f.1 q, flats_rep f.2 t]; rfl
theorem eqV_rep {u w : U} {x y : V} (f : flatU u = true) (f' : flatU w = true) (h : Rep K W io H u x) (h' : Rep K W io H w y) : eqV x y = eqU u w := by
  cases u with
  | non =>
    rw [h.non']
    cases w with
    | non => rw [h'.non']; rfl
    | bl b => rw [h'.bl']; rfl
    | int b => rw [h'.int']; rfl
    | str b => rw [h'.str']; rfl
    | _ => cases f'
  | bl a =>
    rw [h.bl']
    cases w with
    | non => rw [h'.non']; rfl
    | bl b => rw [h'.bl']; rfl
    | int b => rw [h'.int']; rfl
    | str b => rw [h'.str']; rfl
    | _ => cases f'
  | int a =>
    rw [h.int']
    cases w with
    | non => rw [h'.non']; rfl
    | bl b => rw [h'.bl']; rfl
    | int b => rw [h'.int']; rfl
    | str b => rw [h'.str']; rfl
    | _ => cases f'
  | str a =>
    rw [h.str']
    cases w with
    | non => rw [h'.non']; rfl
    | bl b => rw [h'.bl']; rfl
    | int b => rw [h'.int']; rfl
    | str b => rw [h'.str']; rfl
    | _ => cases f'
  | _ => cases f
theorem inV_rep {w : U} {y : V} (f' : flatU w = true) (h' : Rep K W io H w y) : ∀ {us : List U} {vs : List V}, us.all flatU = true → Reps K W io H us vs → inV y vs = us.any fun u => eqU u w
  | [], _, _, h => by rw [h.isNil]; rfl
  | u :: us, _, f, h => by
    obtain ⟨v, r, rfl, q, t⟩ := h.uncons
    rw [List.all_cons, Bool.and_eq_true] at f
    have ih := inV_rep f' h' f.2 t
    unfold inV at ih ⊢
    rw [List.any_cons, List.any_cons, eqV_rep f.1 f' q h', ih]
theorem pds_any {w : U} : ∀ us : List U, ((pds us).any fun z => PyData.eqv z (pd w)) = us.any fun u => eqU u w
  | [] => by unfold pds; rfl
  | u :: us => by unfold pds; rw [List.any_cons, List.any_cons, pds_any us]; rfl
end
section
variable {X : Cx}
theorem Rep.notNone {K : PySem.W.Frag} {W : Addr → Prop} {io : List Addr} {H : Hp} {u : U} {v : V} (h : Rep K W io H u v) (n : u ≠ .non) : v ≠ .non := fun e => by
  subst e
  cases u with
  | non => exact n rfl
  | bl b => cases h.bl'
  | int b => cases h.int'
  | str b => cases h.str'
  | tup us => obtain ⟨_, _, e, _⟩ := h.tup'; cases e
  | lst us => obtain ⟨_, _, e, _⟩ := h.lst'; cases e
  | dct ks us => unfold Rep at h; obtain ⟨_, _, e, _⟩ := h; cases e
  | ref k => unfold Rep at h; obtain ⟨_, _, e⟩ := h; cases e
  | ty k => unfold Rep at h; cases h
  | scr ns => unfold Rep at h; obtain ⟨_, e, _⟩ := h; cases e
theorem o_is : OpR X (compareOp .Is) (P2 X.K is2) := by
  intro pins s sg H x y v u Q I rx ry h
  obtain ⟨G, io, st, u1, u2, u3, ok, r1, r2, e, q⟩ := h
  have no : u1 ≠ .non → y = .non → u3 = .bl false → wpAny (model X.prog X.w) X.A (compareOp .Is v u) (EP X pins sg Q) X.xe s := fun n ey e3 => by
    subst ey; subst e3
    exact op_isN pins s sg H _ _ v u Q I rx ry ⟨rfl, q _ H (Same.refl H) (by rw [decide_eq_false (r1.notNone n)]; exact rBl _)⟩
  unfold is2 at e
  split at e
  · cases e; have e1 := r1.non'; have e2 := r2.non'; subst e1; subst e2
    exact op_isN pins s sg H _ _ v u Q I rx ry ⟨rfl, q _ H (Same.refl H) (rBl _)⟩
  · cases e; exact no (fun z => nomatch z) r2.non' rfl
  · cases e; exact no (fun z => nomatch z) r2.non' rfl
  · cases e; exact no (fun z => nomatch z) r2.non' rfl
  · cases e; exact no (fun z => nomatch z) r2.non' rfl
  · cases e; exact no (fun z => nomatch z) r2.non' rfl
  · cases e; exact no (fun z => nomatch z) r2.non' rfl
  · cases e; exact no (fun z => nomatch z) r2.non' rfl
  · cases e; have e1 := r1.bl'; have e2 := r2.bl'; subst e1; subst e2
    exact op_is_bl pins s sg H _ _ v u Q I rx ry ⟨_, _, rfl, rfl, q _ H (Same.refl H) (rBl _)⟩
  · cases e
theorem o_isnot : OpR X (compareOp .IsNot) (P2 X.K isnot2) := by
  intro pins s sg H x y v u Q I rx ry h
  obtain ⟨G, io, st, u1, u2, u3, ok, r1, r2, e, q⟩ := h
  have no : u1 ≠ .non → y = .non → u3 = .bl true → wpAny (model X.prog X.w) X.A (compareOp .IsNot v u) (EP X pins sg Q) X.xe s := fun n ey e3 => by
    subst ey; subst e3
    exact op_notN pins s sg H _ _ v u Q I rx ry ⟨rfl, q _ H (Same.refl H) (by rw [decide_eq_false (r1.notNone n)]; exact rBl _)⟩
  unfold isnot2 at e
  split at e
  · cases e; have e1 := r1.non'; have e2 := r2.non'; subst e1; subst e2
    exact op_notN pins s sg H _ _ v u Q I rx ry ⟨rfl, q _ H (Same.refl H) (rBl _)⟩
  · cases e; exact no (fun z => nomatch z) r2.non' rfl
  · cases e; exact no (fun z => nomatch z) r2.non' rfl
  · cases e; exact no (fun z => nomatch z) r2.non' rfl
  · cases e; exact no (fun z => nomatch z) r2.non' rfl
  · cases e; exact no (fun z => nomatch z) r2.non' rfl
  · cases e; exact no (fun z => nomatch z) r2.non' rfl
  · cases e; exact no (fun z => nomatch z) r2.non' rfl
  · cases e; have e1 := r1.bl'; have e2 := r2.bl'; subst e1; subst e2
    exact op_isnot_bl pins s sg H _ _ v u Q I rx ry ⟨_, _, rfl, rfl, q _ H (Same.refl H) (rBl _)⟩
  · cases e
theorem str_one {x : Str} (h : x.cps.size = 1) : x = ⟨#[x.cps.getD 0 0]⟩ := by
  obtain ⟨⟨l⟩⟩ := x
  match l, h with
  | [c], _ => rfl
theorem o_in (hu : X.A.units + 65 < cLine) : OpR X (compareOp .In) (P2 X.K in2) := by
  intro pins s sg H x y v u Q I rx ry h
  obtain ⟨G, io, st, u1, u2, u3, ok, r1, r2, e, q⟩ := h
  unfold in2 at e
  split at e
  · split at e
    · rename_i h1
      cases e; have e1 := r1.str'; have e2 := r2.str'; subst e1; subst e2
      exact op_in_sign pins s sg H _ _ v u Q I rx ry ⟨_, _, congrArg V.str (str_one h1), rfl, q _ H (Same.refl H) (rBl _)⟩
    · cases e
  · split at e
    · rename_i hf
      cases e
      rw [Bool.and_eq_true] at hf
      obtain ⟨a, vs, rfl, l, rs⟩ := r2.tup'
      exact op_in_seq pins s sg H _ _ v u Q I rx ry ⟨a, vs, rfl, .inr l.sq, flat_rep hf.1 r1, flats_rep hf.2 rs, q _ H (Same.refl H) (by rw [inV_rep hf.1 r1 hf.2 rs]; exact rBl _)⟩
    · split at e
      · rename_i hf
        cases e
        rw [Bool.and_eq_true] at hf
        obtain ⟨a, vs, rfl, l, rs⟩ := r2.tup'
        exact op_in_box hu I rx ry hf.1 r1 rfl (.inr l.sq) hf.2 rs (q _ H (Same.refl H) (rBl _))
      · cases e
  · split at e
    · rename_i hf
      cases e
      rw [Bool.and_eq_true] at hf
      obtain ⟨a, vs, rfl, l, rs⟩ := r2.lst'
      exact op_in_seq pins s sg H _ _ v u Q I rx ry ⟨a, vs, rfl, .inl l.sq, flat_rep hf.1 r1, flats_rep hf.2 rs, q _ H (Same.refl H) (by rw [inV_rep hf.1 r1 hf.2 rs]; exact rBl _)⟩
    · split at e
      · rename_i hf
        cases e
        rw [Bool.and_eq_true] at hf
        obtain ⟨a, vs, rfl, l, rs⟩ := r2.lst'
        exact op_in_box hu I rx ry hf.1 r1 rfl (.inl l.sq) hf.2 rs (q _ H (Same.refl H) (rBl _))
      split at e
      · rename_i ho
        cases e
        rw [Bool.and_eq_true] at ho
        refine op_inD hu pins s sg H _ _ v u Q I rx ry ⟨pd u1, _, r1.dp _ _ (SeqAt.canLay_of_shaped ho.1), r2.dp _ _ (SeqAt.canLay_of_shaped ho.2), ho.1, ho.2, q _ H (Same.refl H) ?_⟩
        rw [pds_any]; exact rBl _
      · cases e
  · cases e
theorem o_nin (hu : X.A.units + 65 < cLine) : OpR X (compareOp .NotIn) (P2 X.K nin2) := by
  intro pins s sg H x y v u Q I rx ry h
  obtain ⟨G, io, st, u1, u2, u3, ok, r1, r2, e, q⟩ := h
  unfold nin2 at e
  split at e
  · split at e
    · rename_i h1
      cases e; have e1 := r1.str'; have e2 := r2.str'; subst e1; subst e2
      exact op_notIn_sign pins s sg H _ _ v u Q I rx ry ⟨_, _, congrArg V.str (str_one h1), rfl, q _ H (Same.refl H) (rBl _)⟩
    · cases e
  · split at e
    · rename_i hf
      cases e
      rw [Bool.and_eq_true] at hf
      obtain ⟨a, vs, rfl, l, rs⟩ := r2.tup'
      exact op_notIn_seq pins s sg H _ _ v u Q I rx ry ⟨a, vs, rfl, .inr l.sq, flat_rep hf.1 r1, flats_rep hf.2 rs, q _ H (Same.refl H) (by rw [inV_rep hf.1 r1 hf.2 rs]; exact rBl _)⟩
    · split at e
      · rename_i hf
        cases e
        rw [Bool.and_eq_true] at hf
        obtain ⟨a, vs, rfl, l, rs⟩ := r2.tup'
        exact op_nin_box hu I rx ry hf.1 r1 rfl (.inr l.sq) hf.2 rs (q _ H (Same.refl H) (rBl _))
      · cases e
  · split at e
    · rename_i hf
      cases e
      rw [Bool.and_eq_true] at hf
      obtain ⟨a, vs, rfl, l, rs⟩ := r2.lst'
      exact op_notIn_seq pins s sg H _ _ v u Q I rx ry ⟨a, vs, rfl, .inl l.sq, flat_rep hf.1 r1, flats_rep hf.2 rs, q _ H (Same.refl H) (by rw [inV_rep hf.1 r1 hf.2 rs]; exact rBl _)⟩
    · split at e
      · rename_i hf
        cases e
        rw [Bool.and_eq_true] at hf
        obtain ⟨a, vs, rfl, l, rs⟩ := r2.lst'
        exact op_nin_box hu I rx ry hf.1 r1 rfl (.inl l.sq) hf.2 rs (q _ H (Same.refl H) (rBl _))
      split at e
      · rename_i ho
        cases e
        rw [Bool.and_eq_true] at ho
        refine op_notInD hu pins s sg H _ _ v u Q I rx ry ⟨pd u1, _, r1.dp _ _ (SeqAt.canLay_of_shaped ho.1), r2.dp _ _ (SeqAt.canLay_of_shaped ho.2), ho.1, ho.2, q _ H (Same.refl H) ?_⟩
        rw [pds_any]; exact rBl _
      · cases e
  · cases e
end
/-! ### places -/
def ix2 : U → U → Option U
  | .lst us, .int i => atI us i
  | .tup us, .int i => atI us i
  | .scr ns, .int i => (atI ns i).map U.int
  | .str x, .int i => if x.length ≤ sizeLine then (atI x.cps.toList i).map fun c => .str ⟨#[c]⟩ else none
  | _, _ => none
theorem atI_map {A B : Type} (f : A → B) {l : List A} {i : Int} {x : A} (h : atI l i = some x) : atI (l.map f) i = some (f x) := by
  unfold atI at h ⊢
  rw [List.length_map]
  cases q : ixN l.length i with
  | none => rw [q] at h; cases h
  | some j =>
    rw [q] at h
    have h : l[j]? = some x := h
    show (l.map f)[j]? = some (f x)
    rw [List.getElem?_map, h]; rfl
theorem atI_rep {K : PySem.W.Frag} {W : Addr → Prop} {io : List Addr} {H : Hp} {us : List U} {vs : List V} (r : Reps K W io H us vs) {i : Int} {u : U} (h : atI us i = some u) : ∃ v, atI vs i = some v ∧ Rep K W io H u v := by
  unfold atI at h ⊢
  rw [← r.length]
  cases q : ixN us.length i with
  | none => rw [q] at h; cases h
  | some j =>
    rw [q] at h
    obtain ⟨v, h1, h2⟩ := r.get (i := j) (u := u) h
    exact ⟨v, h1, h2⟩
section
variable {X : Cx} {xs : XS} {wx : WX} {pos : Pos}
theorem o_ix : IxR X (P2 X.K ix2) := by
  intro value slice pins s sg H x y v u Q I rx ry h hs
  obtain ⟨G, io, st, u1, u2, u3, ok, r1, r2, e, q⟩ := h
  unfold ix2 at e
  split at e
  · have e2 := r2.int'; subst e2
    obtain ⟨a, vs, rfl, l, rs⟩ := r1.lst'
    obtain ⟨w, h1, h2⟩ := atI_rep rs e
    exact ix_list value slice pins s sg H _ _ v u Q I rx ry ⟨a, vs, _, w, rfl, rfl, l.sq, h1, q _ H (Same.refl H) h2⟩ hs
  · have e2 := r2.int'; subst e2
    obtain ⟨a, vs, rfl, l, rs⟩ := r1.tup'
    obtain ⟨w, h1, h2⟩ := atI_rep rs e
    exact ix_tup value slice pins s sg H _ _ v u Q I rx ry ⟨a, vs, _, w, rfl, rfl, l.sq, h1, q _ H (Same.refl H) h2⟩ hs
  · have e2 := r2.int'; subst e2
    rw [Option.map_eq_some_iff] at e
    obtain ⟨n, hn, rfl⟩ := e
    unfold Rep at r1
    obtain ⟨a, rfl, l⟩ := r1
    have h1 := atI_map V.int hn
    exact ix_list value slice pins s sg H _ _ v u Q I rx ry ⟨a, _, _, _, rfl, rfl, l.sq, h1, q _ H (Same.refl H) (rInt _)⟩ hs
  · split at e
    · rename_i hz
      have e1 := r1.str'; have e2 := r2.int'; subst e1; subst e2
      rw [Option.map_eq_some_iff] at e
      obtain ⟨c, hc, rfl⟩ := e
      exact ix_str value slice pins s sg H _ _ v u Q I rx ry ⟨_, _, c, rfl, rfl, hz, hc, q _ H (Same.refl H) (rStr _)⟩ hs
    · cases e
  · cases e
theorem d_ix {a b : Expr} {f g : DE} (ha : PE X a (tD X.K xs wx f)) (hb : PE X b (tD X.K xs wx g)) (hs : PlainIx b) : PE X (.Subscript a b pos) (tD X.K xs wx (bin ix2 f g)) := pe_imp (pe_ix o_ix ha hb hs) fun _ _ _ h => bin_read h
/-! ### slices -/
def cutL {A : Type} (l : List A) (lo hi : Option Int) : List A := (l.drop (HT.sIx l.length 0 lo)).take (HT.sIx l.length l.length hi - HT.sIx l.length 0 lo)
def sl3 (u : U) (lo hi : Option Int) : Option U := match u with
  | .lst us => some (.lst (cutL us lo hi))
  | .tup us => some (.tup (cutL us lo hi))
  | .scr ns => some (.lst ((cutL ns lo hi).map U.int))
  | .str x => if x.length ≤ sizeLine then some (.str (cutS x lo hi)) else none
  | _ => none
abbrev DO := Env → Store → Rs (Option Int)
def noO : DO := fun _ st => .ok none st
def soO (f : DE) : DO := fun env st => (f env st).bind fun u st1 => match u with
  | .int i => .ok (some i) st1
  | _ => .bad
def slD (f : DE) (a b : DO) : DE := fun env st => (f env st).bind fun u st1 => (a env st1).bind fun lo st2 => (b env st2).bind fun hi st3 => Rs.of (sl3 u lo hi) st3
def tDO (K : PySem.W.Frag) (xs : XS) (wx : WX) (f : DO) : TO := fun sg H Q => ∃ G io st env, Ok K G io st H ∧ EnvRep K G io H env sg ∧
  Wants K G io H (fun _ _ H' o => Q o H') (XW xs wx sg) (f env st)
theorem po_imp {e : Option Expr} {t t' : TO} (h : PO X e t) (f : ∀ sg H Q, t' sg H Q → t sg H Q) : PO X e t' := ⟨fun pins s sg H Q I q => h.run pins s sg H Q I (f sg H Q q)⟩
theorem op_none : PO X none (tDO X.K xs wx noO) := po_imp po_none fun sg H Q h => by
  obtain ⟨G, io, st, env, ok, er, w⟩ := h
  exact w.here ok
theorem op_some {e : Expr} {f : DE} (h : PE X e (tD X.K xs wx f)) : PO X (some e) (tDO X.K xs wx (soO f)) := po_imp (po_some h) fun sg H Q q => by
  obtain ⟨G, io, st, env, ok, er, w⟩ := q
  refine ⟨G, io, st, env, ok, er, w.bind.impR fun st1 io1 H1 u ok1 e1 w1 v rv => ?_⟩
  cases u with
  | int i => exact ⟨i, rv.int', w1.here ok1⟩
  | _ => exact w1.elim
def P3 (K : PySem.W.Frag) : V → Option Int → Option Int → Hp → VK → Prop := fun x lo hi H Q => ∃ G io st u1 u, Ok K G io st H ∧ Rep K (Wf G io) io H u1 x ∧ sl3 u1 lo hi = some u ∧ ∀ v H', Same H H' → Rep K (Wf G io) io H' u v → Q v H'
theorem o_sl : SlR X (P3 X.K) := by
  intro pins s sg H x v vl vu lo hi sl Q I rx hs pl pu h
  obtain ⟨G, io, st, u1, u3, ok, r1, e, q⟩ := h
  unfold sl3 at e
  split at e
  · cases e
    obtain ⟨a, vs, rfl, l, rs⟩ := r1.lst'
    refine sl_list pins s sg H _ v vl vu lo hi sl Q I rx hs pl pu ⟨a, vs, rfl, l.sq, fun p hp => q _ _ (same_upd hp) (ok.newL hp ?_)⟩
    unfold cutL cutV
    rw [rs.length]
    exact (rs.drop _).take _
  · cases e
    obtain ⟨a, vs, rfl, l, rs⟩ := r1.tup'
    refine sl_tupA pins s sg H _ v vl vu lo hi sl Q I rx hs pl pu ⟨a, vs, rfl, l.sq, fun w => q _ H (Same.refl H) ?_, fun _ p hp => q _ _ (same_upd hp) (ok.newT hp ?_)⟩
    · unfold cutL
      rw [rs.length, w.1, w.2, List.drop_zero, Nat.sub_zero, ← rs.length, List.take_length]
      exact rTup l rs
    · unfold cutL cutV
      rw [rs.length]
      exact (rs.drop _).take _
  · cases e
    unfold Rep at r1
    obtain ⟨a, rfl, l⟩ := r1
    refine sl_list pins s sg H _ v vl vu lo hi sl Q I rx hs pl pu ⟨a, _, rfl, l.sq, fun p hp => q _ _ (same_upd hp) (ok.newL hp ?_)⟩
    unfold cutL cutV
    rw [List.length_map, List.map_take, List.map_drop]
    exact ((Reps.ints _).drop _).take _
  · split at e
    · rename_i hz
      cases e; have e1 := r1.str'; subst e1
      exact sl_str pins s sg H _ v vl vu lo hi sl Q I rx hs pl pu ⟨_, rfl, hz, q _ H (Same.refl H) (rStr _)⟩
    · cases e
  · cases e
theorem d_slice {e : Expr} {lo hi : Option Expr} {p2 : Pos} {f : DE} {a b : DO} (he : PE X e (tD X.K xs wx f)) (hl : PO X lo (tDO X.K xs wx a)) (hu : PO X hi (tDO X.K xs wx b)) : PE X (.Subscript e (.Slice lo hi none p2) pos) (tD X.K xs wx (slD f a b)) :=
  pe_imp (pe_slice o_sl he hl hu) fun sg H Q h => by
    obtain ⟨G, io, st, env, ok, er, w⟩ := h
    refine ⟨G, io, st, env, ok, er, w.bind.impR fun st1 io1 H1 u ok1 e1 w1 v rv => ?_⟩
    refine ⟨G, io1, st1, env, ok1, er.ext ok.dj e1, w1.bind.impR fun st2 io2 H2 l ok2 e2 w2 => ?_⟩
    refine ⟨G, io2, st2, env, ok2, (er.ext ok.dj e1).ext ok1.dj e2, w2.bind.impR fun st3 io3 H3 h ok3 e3 w3 => ?_⟩
    obtain ⟨r, hr, w4⟩ := w3.pure
    exact ⟨G, io3, st3, u, r, ok3, (rv.ext e2).ext e3, hr, fun v' H' s r' => w4.hereS ok3 s v' r'⟩
end
end D
namespace D
open PySem L2
def lenN : List U → Option U
  | [.lst us] => some (.int us.length)
  | [.tup us] => some (.int us.length)
  | [.scr us] => some (.int us.length)
  | [.str x] => if x.length ≤ sizeLine then some (.int x.length) else none
  | _ => none
def tyU : U → Option String
  | .non => some "NoneType"
  | .bl _ => some "bool"
  | .int _ => some "int"
  | .str _ => some "str"
  | .tup _ => some "tuple"
  | .lst _ => some "list"
  | .dct _ _ => some "dict"
  | .scr _ => some "list"
  | _ => none
def isB (a b : String) : Bool := a == b || (a == "bool" && b == "int")
def tyNames : List String := ["str", "int", "bool", "tuple", "list", "dict"]
theorem isB_ok : ∀ a ∈ ["NoneType", "bool", "int", "str", "tuple", "list", "dict"], ∀ b ∈ tyNames, kitB a b = some (isB a b) := by decide +kernel
def isiN : List U → Option U
  | [u, .ty c] => if c ∈ tyNames then (tyU u).map fun t => .bl (isB t c) else none
  | _ => none
theorem tyU_mem {u : U} {t : String} (h : tyU u = some t) : t ∈ ["NoneType", "bool", "int", "str", "tuple", "list", "dict"] := by
  cases u <;> first | (cases h; decide) | cases h
def maxN : List U → Option U
  | [.int i, .int j] => some (.int (if j > i then j else i))
  | _ => none
def minN : List U → Option U
  | [.int i, .int j] => some (.int (if j < i then j else i))
  | _ => none
def absN : List U → Option U
  | [.int i] => some (.int (if i < 0 then -i else i))
  | _ => none
def boolsU : List U → Option (List Bool)
  | [] => some []
  | .bl b :: us => (boolsU us).map (b :: ·)
  | _ => none
def intsU : List U → Option (List Int)
  | [] => some []
  | .int b :: us => (intsU us).map (b :: ·)
  | _ => none
def strsU : List U → Option (List Str)
  | [] => some []
  | .str b :: us => (strsU us).map (b :: ·)
  | _ => none
theorem bools_eq : ∀ {us : List U} {bs : List Bool}, boolsU us = some bs → us = bs.map U.bl
  | [], _, h => by cases h; rfl
  | .bl b :: us, _, h => by
    unfold boolsU at h
    rw [Option.map_eq_some_iff] at h
    obtain ⟨r, h1, rfl⟩ := h
    rw [bools_eq h1]; rfl
  | .non :: _, _, h => by unfold boolsU at h; cases h
  | .int _ :: _, _, h => by unfold boolsU at h; cases h
  | .str _ :: _, _, h => by unfold boolsU at h; cases h
  | .tup _ :: _, _, h => by unfold boolsU at h; cases h
  | .lst _ :: _, _, h => by unfold boolsU at h; cases h
  | .dct _ _ :: _, _, h => by unfold boolsU at h; cases h
  | .ref _ :: _, _, h => by unfold boolsU at h; cases h
  | .ty _ :: _, _, h => by unfold boolsU at h; cases h
  | .scr _ :: _, _, h => by unfold boolsU at h; cases h
theorem ints_eq : ∀ {us : List U} {bs : List Int}, intsU us = some bs → us = bs.map U.int
  | [], _, h => by cases h; rfl
  | .int b :: us, _, h => by
    unfold intsU at h
    rw [Option.map_eq_some_iff] at h
    obtain ⟨r, h1, rfl⟩ := h
    rw [ints_eq h1]; rfl
  | .non :: _, _, h => by unfold intsU at h; cases h
  | .bl _ :: _, _, h => by unfold intsU at h; cases h
  | .str _ :: _, _, h => by unfold intsU at h; cases h
  | .tup _ :: _, _, h => by unfold intsU at h; cases h
  | .lst _ :: _, _, h => by unfold intsU at h; cases h
  | .dct _ _ :: _, _, h => by unfold intsU at h; cases h
  | .ref _ :: _, _, h => by unfold intsU at h; cases h
  | .ty _ :: _, _, h => by unfold intsU at h; cases h
  | .scr _ :: _, _, h => by unfold intsU at h; cases h
theorem strs_eq : ∀ {us : List U} {bs : List Str}, strsU us = some bs → us = bs.map U.str
  | [], _, h => by cases h; rfl
  | .str b :: us, _, h => by
    unfold strsU at h
    rw [Option.map_eq_some_iff] at h
    obtain ⟨r, h1, rfl⟩ := h
    rw [strs_eq h1]; rfl
  | .non :: _, _, h => by unfold strsU at h; cases h
  | .bl _ :: _, _, h => by unfold strsU at h; cases h
  | .int _ :: _, _, h => by unfold strsU at h; cases h
  | .tup _ :: _, _, h => by unfold strsU at h; cases h
  | .lst _ :: _, _, h => by unfold strsU at h; cases h
  | .dct _ _ :: _, _, h => by unfold strsU at h; cases h
  | .ref _ :: _, _, h => by unfold strsU at h; cases h
  | .ty _ :: _, _, h => by unfold strsU at h; cases h
  | .scr _ :: _, _, h => by unfold strsU at h; cases h
theorem bools_map (bs : List Bool) : boolsU (bs.map U.bl) = some bs := by
  induction bs with
  | nil => rfl
  | cons b bs ih => rw [List.map_cons]; unfold boolsU; rw [ih]; rfl
theorem ints_map (bs : List Int) : intsU (bs.map U.int) = some bs := by
  induction bs with
  | nil => rfl
  | cons b bs ih => rw [List.map_cons]; unfold intsU; rw [ih]; rfl
theorem strs_map (bs : List Str) : strsU (bs.map U.str) = some bs := by
  induction bs with
  | nil => rfl
  | cons b bs ih => rw [List.map_cons]; unfold strsU; rw [ih]; rfl
def allN : List U → Option U
  | [.lst us] => (boolsU us).map fun bs => .bl (bs.all id)
  | _ => none
def anyN : List U → Option U
  | [.lst us] => (boolsU us).map fun bs => .bl (bs.any id)
  | _ => none
def sumN : List U → Option U
  | [.lst us] => (intsU us).map fun bs => .int bs.sum
  | [.scr ns] => some (.int ns.sum)
  | _ => none
def tupN : List U → Option U
  | [.lst us] => some (.tup us)
  | [.tup us] => some (.tup us)
  | _ => none
def intN : List U → Option U
  | [.int i] => some (.int i)
  | [.bl k] => some (.int (if k then 1 else 0))
  | _ => none
def strN : List U → Option U
  | [.int i] => if i.natAbs.log2 < 1920 then some (.str (toString i)) else none
  | [.str x] => some (.str x)
  | _ => none
section
variable {K : PySem.W.Frag} {W : Addr → Prop} {io : List Addr} {H : Hp}
theorem Reps.one {u : U} {vs : List V} (h : Reps K W io H [u] vs) : ∃ v, vs = [v] ∧ Rep K W io H u v := by
  obtain ⟨v, r, rfl, q, t⟩ := h.uncons
  rw [t.isNil]; exact ⟨v, rfl, q⟩
theorem Reps.two {u w : U} {vs : List V} (h : Reps K W io H [u, w] vs) : ∃ v x, vs = [v, x] ∧ Rep K W io H u v ∧ Rep K W io H w x := by
  obtain ⟨v, r, rfl, q, t⟩ := h.uncons
  obtain ⟨x, rfl, q'⟩ := t.one
  exact ⟨v, x, rfl, q, q'⟩
theorem Rep.scr' {ns : List Int} {v : V} (h : Rep K W io H (.scr ns) v) : ∃ a, v = .ref a ∧ LS K W H a (ns.map V.int) := by unfold Rep at h; exact h
theorem Rep.dct' {ks us : List U} {v : V} (h : Rep K W io H (.dct ks us) v) : ∃ a vs, v = .ref a ∧ LD W H a ks vs ∧ Reps K W io H us vs := by unfold Rep at h; exact h
theorem Rep.ty' {n : String} {v : V} (h : Rep K W io H (.ty n) v) : v = .ty n := by unfold Rep at h; exact h
theorem tyX {u : U} {v : V} {t : String} (h : Rep K W io H u v) (e : tyU u = some t) : TyX K H v (.type t) := by
  cases u with
  | non => cases e; rw [h.non']; exact .base .non
  | bl b => cases e; rw [h.bl']; exact .base (.bl b)
  | int b => cases e; rw [h.int']; exact .base (.int b)
  | str b => cases e; rw [h.str']; exact .base (.str b)
  | tup us =>
    cases e
    obtain ⟨a, vs, rfl, l, _⟩ := h.tup'
    rcases l with ⟨l | ⟨o, l⟩, _⟩ | ⟨o, its, n, l, c, _⟩
    · exact .base (.tup l)
    · exact .fTuple l
    · exact .kTuple l c
  | lst us =>
    cases e
    obtain ⟨a, vs, rfl, l, _⟩ := h.lst'
    exact .base (.lst l.1)
  | dct ks us =>
    cases e
    obtain ⟨a, vs, rfl, ⟨_, ⟨kvs, l | ⟨o, l⟩, _⟩ | ⟨kvs, l, _⟩⟩, _⟩ := h.dct'
    · exact .base (.dK l)
    · exact .fDict l
    · exact .base (.dT l)
  | scr ns =>
    cases e
    obtain ⟨a, rfl, l⟩ := h.scr'
    rcases l with ⟨l | ⟨o, l⟩, _⟩ | ⟨o, its, n, l, c, _⟩
    · exact .base (.lst l)
    · exact .base (.frz l)
    · exact .kList l c
  | _ => cases e
end
section
variable {X : Cx}
theorem c_len : CallR X (.builtin "len") (PN X.K lenN) := by
  intro pins s sg H vs us Q I r h
  obtain ⟨G, io, st, ws, u, ok, rs, e, q⟩ := h
  unfold lenN at e
  split at e
  · cases e
    obtain ⟨v, rfl, rv⟩ := rs.one
    obtain ⟨a, xs, rfl, l, r'⟩ := rv.lst'
    exact call_len_seq pins s sg H _ us Q I r ⟨a, xs, rfl, .inl l.sq, q _ H (Same.refl H) (by rw [r'.length]; exact rInt _)⟩
  · cases e
    obtain ⟨v, rfl, rv⟩ := rs.one
    obtain ⟨a, xs, rfl, l, r'⟩ := rv.tup'
    exact call_len_seq pins s sg H _ us Q I r ⟨a, xs, rfl, .inr l.sq, q _ H (Same.refl H) (by rw [r'.length]; exact rInt _)⟩
  · cases e
    obtain ⟨v, rfl, rv⟩ := rs.one
    obtain ⟨a, rfl, l⟩ := rv.scr'
    exact call_len_seq pins s sg H _ us Q I r ⟨a, _, rfl, .inl l.sq, q _ H (Same.refl H) (by rw [List.length_map]; exact rInt _)⟩
  · split at e
    · rename_i hz
      cases e
      obtain ⟨v, rfl, rv⟩ := rs.one
      have e1 := rv.str'; subst e1
      exact call_len_str pins s sg H _ us Q I r ⟨_, rfl, hz, q _ H (Same.refl H) (rInt _)⟩
    · cases e
  · cases e
theorem c_isi : CallR X (.builtin "isinstance") (PN X.K isiN) := by
  intro pins s sg H vs us Q I r h
  obtain ⟨G, io, st, ws, u, ok, rs, e, q⟩ := h
  unfold isiN at e
  split at e
  · rename_i w c
    split at e
    · rename_i hc
      rw [Option.map_eq_some_iff] at e
      obtain ⟨t, ht, rfl⟩ := e
      obtain ⟨v, x, rfl, rv, rx⟩ := rs.two
      have e1 := rx.ty'; subst e1
      exact call_isi pins s sg H _ us Q I r ⟨v, .ty c, .type t, .type c, isB t c, rfl, .ty c, tyX rv ht, kit_ty (isB_ok t (tyU_mem ht) c hc), q _ H (Same.refl H) (rBl _)⟩
    · cases e
  · cases e
theorem c_max (hc : X.calm = true) : CallR X (.builtin "max") (PN X.K maxN) := by
  intro pins s sg H vs us Q I r h
  obtain ⟨G, io, st, ws, u, ok, rs, e, q⟩ := h
  unfold maxN at e
  split at e
  · cases e
    obtain ⟨v, x, rfl, rv, rx⟩ := rs.two
    have e1 := rv.int'; have e2 := rx.int'; subst e1; subst e2
    exact call_max2 hc pins s sg H _ us Q I r ⟨_, _, rfl, q _ H (Same.refl H) (rInt _)⟩
  · cases e
theorem c_min (hc : X.calm = true) : CallR X (.builtin "min") (PN X.K minN) := by
  intro pins s sg H vs us Q I r h
  obtain ⟨G, io, st, ws, u, ok, rs, e, q⟩ := h
  unfold minN at e
  split at e
  · cases e
    obtain ⟨v, x, rfl, rv, rx⟩ := rs.two
    have e1 := rv.int'; have e2 := rx.int'; subst e1; subst e2
    exact call_min2 hc pins s sg H _ us Q I r ⟨_, _, rfl, q _ H (Same.refl H) (rInt _)⟩
  · cases e
theorem c_abs : CallR X (.builtin "abs") (PN X.K absN) := by
  intro pins s sg H vs us Q I r h
  obtain ⟨G, io, st, ws, u, ok, rs, e, q⟩ := h
  unfold absN at e
  split at e
  · cases e
    obtain ⟨v, rfl, rv⟩ := rs.one
    have e1 := rv.int'; subst e1
    exact call_abs pins s sg H _ us Q I r ⟨_, rfl, q _ H (Same.refl H) (rInt _)⟩
  · cases e
theorem c_all (hc : X.calm = true) : CallR X (.builtin "all") (PN X.K allN) := by
  intro pins s sg H vs us Q I r h
  obtain ⟨G, io, st, ws, u, ok, rs, e, q⟩ := h
  unfold allN at e
  split at e
  · rw [Option.map_eq_some_iff] at e
    obtain ⟨bs, hb, rfl⟩ := e
    obtain ⟨v, rfl, rv⟩ := rs.one
    obtain ⟨a, xs, rfl, l, r'⟩ := rv.lst'
    rw [bools_eq hb] at r'
    have e1 := Reps.ofBls r'; subst e1
    exact cr_all hc pins s sg H _ us Q I r ⟨a, bs, rfl, l.sq, q _ H (Same.refl H) (rBl _)⟩
  · cases e
theorem c_any (hc : X.calm = true) : CallR X (.builtin "any") (PN X.K anyN) := by
  intro pins s sg H vs us Q I r h
  obtain ⟨G, io, st, ws, u, ok, rs, e, q⟩ := h
  unfold anyN at e
  split at e
  · rw [Option.map_eq_some_iff] at e
    obtain ⟨bs, hb, rfl⟩ := e
    obtain ⟨v, rfl, rv⟩ := rs.one
    obtain ⟨a, xs, rfl, l, r'⟩ := rv.lst'
    rw [bools_eq hb] at r'
    have e1 := Reps.ofBls r'; subst e1
    exact cr_any hc pins s sg H _ us Q I r ⟨a, bs, rfl, l.sq, q _ H (Same.refl H) (rBl _)⟩
  · cases e
theorem c_sum (hc : X.calm = true) : CallR X (.builtin "sum") (PN X.K sumN) := by
  intro pins s sg H vs us Q I r h
  obtain ⟨G, io, st, ws, u, ok, rs, e, q⟩ := h
  unfold sumN at e
  split at e
  · rw [Option.map_eq_some_iff] at e
    obtain ⟨bs, hb, rfl⟩ := e
    obtain ⟨v, rfl, rv⟩ := rs.one
    obtain ⟨a, xs, rfl, l, r'⟩ := rv.lst'
    rw [ints_eq hb] at r'
    have e1 := Reps.ofInts r'; subst e1
    exact cr_sum hc pins s sg H _ us Q I r ⟨a, bs, rfl, l.sq, q _ H (Same.refl H) (rInt _)⟩
  · cases e
    obtain ⟨v, rfl, rv⟩ := rs.one
    obtain ⟨a, rfl, l⟩ := rv.scr'
    exact cr_sum hc pins s sg H _ us Q I r ⟨a, _, rfl, l.sq, q _ H (Same.refl H) (rInt _)⟩
  · cases e
theorem c_tup : CallR X (.type "tuple") (PN X.K tupN) := by
  intro pins s sg H vs us Q I r h
  obtain ⟨G, io, st, ws, u, ok, rs, e, q⟩ := h
  unfold tupN at e
  split at e
  · cases e
    obtain ⟨v, rfl, rv⟩ := rs.one
    obtain ⟨a, xs, rfl, l, r'⟩ := rv.lst'
    exact call_tuple_of pins s sg H _ us Q I r ⟨a, xs, rfl, .inl ⟨l.sq, fun p hp => q _ _ (same_upd hp) (ok.newT hp r')⟩⟩
  · cases e
    obtain ⟨v, rfl, rv⟩ := rs.one
    obtain ⟨a, xs, rfl, l, r'⟩ := rv.tup'
    exact call_tuple_of pins s sg H _ us Q I r ⟨a, xs, rfl, .inr ⟨l.sq, q _ H (Same.refl H) (rTup l r')⟩⟩
  · cases e
theorem c_int : CallR X (.type "int") (PN X.K intN) := by
  intro pins s sg H vs us Q I r h
  obtain ⟨G, io, st, ws, u, ok, rs, e, q⟩ := h
  unfold intN at e
  split at e
  · cases e
    obtain ⟨v, rfl, rv⟩ := rs.one
    have e1 := rv.int'; subst e1
    exact call_int1 pins s sg H _ us Q I r (.inl ⟨_, rfl, q _ H (Same.refl H) (rInt _)⟩)
  · cases e
    obtain ⟨v, rfl, rv⟩ := rs.one
    have e1 := rv.bl'; subst e1
    exact call_int1 pins s sg H _ us Q I r (.inr ⟨_, rfl, q _ H (Same.refl H) (rInt _)⟩)
  · cases e
/-- list(x): a new one -/
def lstL : List U → Option (List U)
  | [.lst us] => some us
  | [.tup us] => some us
  | [.scr ns] => some (ns.map U.int)
  | _ => none
variable {xs : XS} {wx : WX} {pos : Pos}
theorem l_list {x : Str} {p : Pos} {e : Expr} {es : List Expr} {f : DA} (hx : x = "list") (hg : Gl X x) (hm : X.mg x = none) (ha : PA X (e :: es) (tDA X.K xs wx f)) (he : starEach (e :: es) X.env = (false, eval e X.env) :: starEach es X.env := by rfl) (hpl : (backTo pos (starEach es X.env)).any (·.1) = false := by rfl) :
    PE X (.Call (.Name x p) (e :: es) [] pos) (tDL X.K xs wx (itA lstL f)) := by
  subst hx
  refine pe_imp (pe_callTy call_list_of hg hm (by decide +kernel) ha (by decide) (by decide) he hpl) fun sg H Q h => ?_
  obtain ⟨G, io, st, env, ok, er, w⟩ := h
  refine ⟨G, io, st, env, ok, er, w.bind.impR fun st1 io1 H1 us ok1 e1 w1 vs rvs => ?_⟩
  obtain ⟨ws, hu, w2⟩ := w1.pure
  unfold lstL at hu
  split at hu
  · cases hu
    obtain ⟨v, rfl, rv⟩ := rvs.one
    obtain ⟨a, xs, rfl, l, r'⟩ := rv.lst'
    exact ⟨a, xs, rfl, .inl l.sq, fun p hp => w2.here ok1 xs p r' hp⟩
  · cases hu
    obtain ⟨v, rfl, rv⟩ := rvs.one
    obtain ⟨a, xs, rfl, l, r'⟩ := rv.tup'
    exact ⟨a, xs, rfl, .inr l.sq, fun p hp => w2.here ok1 xs p r' hp⟩
  · cases hu
    obtain ⟨v, rfl, rv⟩ := rvs.one
    obtain ⟨a, rfl, l⟩ := rv.scr'
    exact ⟨a, _, rfl, .inl l.sq, fun p hp => w2.here ok1 _ p (Reps.ints _) hp⟩
  · cases hu
end
end D
namespace D
open PySem L2
/-! ### a def of the text, by its name -/
structure Fn (P : Program) (w : World) (K : PySem.W.Frag) (mg : Str → Option Value) (base : Heap) (xs : XS) (x : Str) (k n : Nat) (g : List U → Store → Rs U) : Prop where
  ex : ∃ f fd ps, mg x = some (.ref f) ∧ PySem.W.keepIn K (.ref f) = true ∧ Binds K fd ps [] ∧ FnOk P w K mg base (L2.CX P w) k f fd ps (spD K xs n g)
  bad : ∀ us st, us.length ≠ n → g us st = .bad
theorem Fn.imp {P : Program} {w : World} {K : PySem.W.Frag} {mg : Str → Option Value} {base : Heap} {xs : XS} {x : Str} {k n : Nat} {g g' : List U → Store → Rs U} (h : Fn P w K mg base xs x k n g) (e : ∀ us st, g' us st ≠ .bad → g us st = g' us st) (hb : ∀ us st, us.length ≠ n → g' us st = .bad) : Fn P w K mg base xs x k n g' := by
  obtain ⟨⟨f, fd, ps, h1, h2, h3, h4⟩, h5⟩ := h
  refine ⟨⟨f, fd, ps, h1, h2, h3, h4.imp fun vs H Q E q => ?_⟩, hb⟩
  obtain ⟨hl, G, io, st, us, ok, r, w⟩ := q
  refine ⟨hl, G, io, st, us, ok, r, ?_⟩
  rw [e us st (Rs.of_bad w)]
  exact w
section
variable {X : Cx} {xs : XS} {wx : WX} {pos : Pos}
theorem d_callF {k n : Nat} {x : Str} {p : Pos} {e : Expr} {es : List Expr} {g : List U → Store → Rs U} {fa : DA} (F : Fn X.prog X.w X.K X.mg X.base xs x k n g) (tk : Takes X wx) (hr : Room k X.A) (hg : Gl X x)
    (ha : PA X (e :: es) (tDA X.K xs wx fa)) (hdb : (x == ("__debug__" : Str)) = false := by decide)
    (he : starEach (e :: es) X.env = (false, eval e X.env) :: starEach es X.env := by rfl) (hpl : (backTo pos (starEach es X.env)).any (·.1) = false := by rfl) : PE X (.Call (.Name x p) (e :: es) [] pos) (tD X.K xs wx (appU g fa)) := by
  obtain ⟨⟨f, fd, ps, h1, h2, h3, h4⟩, h5⟩ := F
  exact d_call tk h4 hr hg h1 h2 h3 h5 ha hdb he hpl
theorem d_callF0 {k : Nat} {x : Str} {p : Pos} {g : List U → Store → Rs U} (F : Fn X.prog X.w X.K X.mg X.base xs x k 0 g) (tk : Takes X wx) (hr : Room k X.A) (hg : Gl X x) (hdb : (x == ("__debug__" : Str)) = false := by decide) : PE X (.Call (.Name x p) [] [] pos) (tD X.K xs wx (appU g anil)) := by
  obtain ⟨⟨f, fd, ps, h1, h2, h3, h4⟩, h5⟩ := F
  refine pe_imp (⟨fun pins s sg H Q I h => ?_⟩ : PE X _ (fun sg H Q => spD X.K xs 0 g [] H Q (WE wx sg))) fun sg H Q h => ?_
  · refine wpAny_Call_Name_kw (ld_glob I hg h1 ?_ hdb)
    exact PySem.W.callWith_K0 I.kIn h2 (run_fnSD (E := WE wx) (us := []) (dvs := []) h4 hr h3 .nil (passAt tk sg) I .nil h)
  · obtain ⟨G, io, st, env, ok, er, w⟩ := h
    exact ⟨rfl, G, io, st, [], ok, .nil, w⟩
theorem hvs_N {i : Nat} {vs : List Nat} (h : i ∈ vs) : ∀ u l, tgN i u = some l → ∀ p ∈ l, p.1 ∈ vs := fun u l e p hp => by
  cases e
  have : p = (i, u) := by simpa using hp
  subst this; exact h
theorem hvs_T {is vs : List Nat} (h : ∀ i ∈ is, i ∈ vs) : ∀ u l, tgT is u = some l → ∀ p ∈ l, p.1 ∈ vs := fun u l e p hp => by
  unfold tgT at e
  split at e
  · split at e
    · cases e
      exact h _ (List.of_mem_zip hp).1
    · cases e
  · cases e
theorem d_ty {x : Str} {n : String} {p : Pos} (hg : Gl X x) (hm : X.mg x = none) (hv : bootBuiltins x = some (.type n)) (hn : x ≠ "__name__" := by decide) (hd : (x == ("__debug__" : Str)) = false := by decide) : PE X (.Name x p) (tD X.K xs wx (cst (.ty n))) :=
  d_cst (pe_bltn hg hm hv (v := .ty n) rfl hn hd) fun _ _ _ => by unfold Rep; rfl
def neg1D (f : DE) : DE := fun env st => (f env st).bind fun u st1 => Rs.of (neg1 u) st1
theorem d_neg {a : Expr} {f : DE} (h : PE X a (tD X.K xs wx f)) : PE X (.UnaryOp .USub a pos) (tD X.K xs wx (neg1D f)) := pe_imp (pe_un un_neg h) fun sg H Q q => by
  obtain ⟨G, io, st, env, ok, er, w⟩ := q
  refine ⟨G, io, st, env, ok, er, w.bind.impR fun st1 io1 H1 u ok1 e1 w1 v rv => ?_⟩
  cases u with
  | int i => exact ⟨i, rv.int', Wants.here (a := U.int (-i)) w1 ok1 _ (rInt _)⟩
  | _ => exact w1.elim
/-! ### dict displays -/
def kOf : U → Option Key
  | .int i => some (.inl i)
  | .str x => some (.inr x)
  | _ => none
def putG {A : Type} (kvs : List (Key × A)) (k : Key) (v : A) : List (Key × A) := if (kvs.any fun kv => decide (kv.1 = k)) = true then kvs.map (fun kv => if kv.1 = k then (kv.1, v) else kv) else kvs ++ [(k, v)]
def mergeG {A : Type} (kvs more : List (Key × A)) : List (Key × A) := more.foldl (fun acc kv => putG acc kv.1 kv.2) kvs
def mkD (kvs : List (Key × U)) : U := .dct (kvs.map fun p => kU p.1) (kvs.map (·.2))
def keyed : List (U × U) → Option (List (Key × U))
  | [] => some []
  | p :: r => match kOf p.1, keyed r with
    | some k, some l => some ((k, p.2) :: l)
    | _, _ => none
def dispU (l : List (U × U)) : Option U := (keyed l).bind fun kvs => if kvs.length ≤ 15 then some (mkD (mergeG [] kvs)) else none
def pairsE : List (DE × DE) → Env → Store → Rs (List (U × U))
  | [], _, st => .ok [] st
  | p :: r, env, st => (p.1 env st).bind fun k st1 => (p.2 env st1).bind fun v st2 => (pairsE r env st2).bind fun l st3 => .ok ((k, v) :: l) st3
def dispD (ps : List (DE × DE)) : DE := fun env st => (noEx (pairsE ps env st)).bind fun l st1 => Rs.of (dispU l) st1
/-- keyed values -/
def KR (K : PySem.W.Frag) (W : Addr → Prop) (io : List Addr) (H : Hp) : List (Key × U) → List (Key × V) → Prop := Paired fun p q => p.1 = q.1 ∧ Rep K W io H p.2 q.2
section
variable {K : PySem.W.Frag} {W : Addr → Prop} {io : List Addr} {H : Hp}
theorem KR.any {k : Key} : ∀ {a : List (Key × U)} {b : List (Key × V)}, KR K W io H a b → (a.any fun kv => decide (kv.1 = k)) = (b.any fun kv => decide (kv.1 = k))
  | _, _, .nil => rfl
  | _, _, .cons h t => by rw [List.any_cons, List.any_cons, KR.any t, h.1]
theorem KR.app : ∀ {a a' : List (Key × U)} {b b' : List (Key × V)}, KR K W io H a b → KR K W io H a' b' → KR K W io H (a ++ a') (b ++ b')
  | _, _, _, _, .nil, h => h
  | _, _, _, _, .cons h t, h' => .cons h (KR.app t h')
theorem KR.upd {k : Key} {u : U} {v : V} (r : Rep K W io H u v) : ∀ {a : List (Key × U)} {b : List (Key × V)}, KR K W io H a b → KR K W io H (a.map (fun kv => if kv.1 = k then (kv.1, u) else kv)) (b.map (fun kv => if kv.1 = k then (kv.1, v) else kv))
  | _, _, .nil => .nil
  | _, _, .cons h t => by
    rw [List.map_cons, List.map_cons]
    refine .cons ?_ (KR.upd r t)
    obtain ⟨h1, h2⟩ := h
    rw [h1]
    split
    · exact ⟨rfl, r⟩
    · exact ⟨h1, h2⟩
theorem KR.put {a : List (Key × U)} {b : List (Key × V)} (h : KR K W io H a b) {k : Key} {u : U} {v : V} (r : Rep K W io H u v) : KR K W io H (putG a k u) (putK b k v) := by
  unfold putG putK
  rw [h.any]
  split
  · exact h.upd r
  · exact h.app (.cons ⟨rfl, r⟩ .nil)
theorem KR.merge : ∀ {m : List (Key × U)} {n : List (Key × V)} {a : List (Key × U)} {b : List (Key × V)}, KR K W io H m n → KR K W io H a b → KR K W io H (mergeG a m) (mergeK b n)
  | _, _, _, _, .nil, h => h
  | _, _, a, b, .cons (a := p) (b := q) h t, h' => by
    have e := h'.put (k := p.1) h.2
    have e2 : KR K W io H (putG a p.1 p.2) (putK b q.1 q.2) := by rw [← h.1]; exact e
    show KR K W io H (mergeG (putG a p.1 p.2) _) (mergeK (putK b q.1 q.2) _)
    exact KR.merge t e2
theorem KR.keys : ∀ {a : List (Key × U)} {b : List (Key × V)}, KR K W io H a b → (a.map fun p => kU p.1) = (b.map fun p => kU p.1)
  | _, _, .nil => rfl
  | _, _, .cons h t => by rw [List.map_cons, List.map_cons, KR.keys t, h.1]
theorem KR.vals : ∀ {a : List (Key × U)} {b : List (Key × V)}, KR K W io H a b → Reps K W io H (a.map (·.2)) (b.map (·.2))
  | _, _, .nil => .nil
  | _, _, .cons h t => .cons h.2 (KR.vals t)
theorem KR.len : ∀ {a : List (Key × U)} {b : List (Key × V)}, KR K W io H a b → a.length = b.length
  | _, _, .nil => rfl
  | _, _, .cons _ t => by simp [KR.len t]
theorem Ok.newD {G : Addr → Prop} {st : Store} (ok : Ok K G io st H) {p : Addr} (hp : H p = none) {us : List (Key × U)} {vs : List (Key × V)} (r : KR K (Wf G io) io H us vs) : Rep K (Wf G io) io (L2.upd H p (.dK vs)) (mkD us) (.ref p) := by
  unfold mkD Rep
  exact ⟨p, vs.map (·.2), rfl, ⟨ok.fresh hp, .inl ⟨vs, .inl upd_same, r.keys, rfl⟩⟩, r.vals.ext (Ext.same (same_upd hp))⟩
theorem kOf_rep {u : U} {v : V} {k : Key} (h : Rep K W io H u v) (e : kOf u = some k) : v = kV k := by
  cases u with
  | int i => cases e; rw [h.int']; rfl
  | str i => cases e; rw [h.str']; rfl
  | _ => cases e
theorem keyed_rep : ∀ {l : List (U × U)} {kvs : List (Key × U)} {ps : List (V × V)}, keyed l = some kvs → Paired (fun (p : U × U) (q : V × V) => Rep K W io H p.1 q.1 ∧ Rep K W io H p.2 q.2) l ps → ∃ kvv : List (Key × V), ps = kvv.map (fun kv => (kV kv.1, kv.2)) ∧ KR K W io H kvs kvv
  | [], _, _, e, .nil => by cases e; exact ⟨[], rfl, .nil⟩
  | p :: _, _, q :: _, e, .cons h t => by
    unfold keyed at e
    split at e
    · rename_i k l e1 e2
      cases e
      obtain ⟨kvv, h1, h2⟩ := keyed_rep e2 t
      refine ⟨(k, q.2) :: kvv, ?_, .cons ⟨rfl, h.2⟩ h2⟩
      rw [List.map_cons, h1, ← kOf_rep h.1 e1]
    · cases e
end
theorem pairs_read {K : PySem.W.Frag} {G : Addr → Prop} {sg : L2.St} {env : Env} {XR} : ∀ (ps : List (DE × DE)) {io : List Addr} {st : Store} {H : Hp} {Q : List (V × V) → Hp → Prop}, Ok K G io st H → EnvRep K G io H env sg →
    Wants K G io H (fun _ io1 H1 l => ∀ pvs, Paired (fun (p : U × U) (q : V × V) => Rep K (Wf G io1) io1 H1 p.1 q.1 ∧ Rep K (Wf G io1) io1 H1 p.2 q.2) l pvs → Q pvs H1) XR (noEx (pairsE ps env st)) →
    tPairs (ps.map fun p => (tD K xs wx p.1, tD K xs wx p.2)) sg H Q
  | [], io, st, H, Q, ok, er, w => Wants.here (a := ([] : List (U × U))) w ok [] .nil
  | p :: r, io, st, H, Q, ok, er, w => by
    unfold pairsE at w
    rw [noEx_bind] at w
    refine ⟨G, io, st, env, ok, er, (Wants.noEx w.bind).impR fun st1 io1 H1 k ok1 e1 w1 x rx => ?_⟩
    rw [noEx_bind] at w1
    have er1 := er.ext ok.dj e1
    refine ⟨G, io1, st1, env, ok1, er1, (Wants.noEx w1.bind).impR fun st2 io2 H2 v ok2 e2 w2 y ry => ?_⟩
    rw [noEx_bind] at w2
    refine pairs_read r ok2 (er1.ext ok1.dj e2) (w2.bind.impR fun st3 io3 H3 l ok3 e3 w3 pvs hp => ?_)
    exact Wants.here (a := (k, v) :: l) w3 ok3 _ (.cons ⟨(rx.ext e2).ext e3, ry.ext e3⟩ hp)
theorem d_dict0 : PE X (.Dict [] [] pos) (tD X.K xs wx (cst (.dct [] []))) := pe_imp pe_dnewK fun sg H Q h => by
  obtain ⟨G, io, st, env, ok, er, w⟩ := h
  exact fun p hp => w.hereS ok (same_upd hp) _ (ok.newD (us := []) hp .nil)
theorem d_disp {keys : List (Option Expr)} {values : List Expr} {ps : List (DE × DE)} (h : PPs X pos keys values (ps.map fun p => (tD X.K xs wx p.1, tD X.K xs wx p.2))) (hall : keys.all (·.isSome) = true := by rfl) (hl : keys.length = values.length := by rfl) (h0 : keys ≠ [] := by simp) (h15 : keys.length ≤ 15 := by decide) :
    PE X (.Dict keys values pos) (tD X.K xs wx (dispD ps)) := pe_imp (pe_disp h hall hl h0 h15) fun sg H Q q D hD => by
  obtain ⟨G, io, st, env, ok, er, w⟩ := q
  have nG : ¬ Wf G io D := ok.fresh hD
  have hH : hid (L2.upd H D (.dK [])) D = H := by rw [hid_upd, hid_none hD]
  have okE : Ok X.K (Gd G D) io st (L2.upd H D (.dK [])) := Ok.enter (by rw [hH]; exact ok) upd_same (fun _ z => nomatch z)
  have erE : EnvRep X.K (Gd G D) io (L2.upd H D (.dK [])) env sg := EnvRep.enter (by rw [hH]; exact er)
  have nD : D ∉ io := fun z => nG (.inr z)
  refine pairs_read (XR := XW xs wx sg) ps okE erE ?_
  have w1 := w.bind
  cases q : noEx (pairsE ps env st) with
  | bad => rw [q] at w1; exact w1.elim
  | ex c us st1 =>
    cases z : pairsE ps env st with
    | ok a b => rw [z] at q; cases q
    | ex a b c => rw [z] at q; cases q
    | bad => rw [z] at q; cases q
  | ok l st1 =>
    rw [q] at w1
    intro io1 H1 ok1 e1 pvs hp
    have d1 : H1 D = some (.dK []) := e1.keep D _ nD upd_same
    have ok2 := ok1.leave (D := D) fun z => nG (.inl z)
    have e2 : Ext io H io1 (hid H1 D) := by
      have := Ext.leave (D := D) e1
      rw [hH] at this
      exact this
    obtain ⟨u, hu, w2⟩ := (w1 io1 _ ok2 e2).pure
    unfold dispU at hu
    cases hk : keyed l with
    | none => rw [hk] at hu; cases hu
    | some kvs =>
      rw [hk] at hu
      have hu : (if kvs.length ≤ 15 then some (mkD (mergeG [] kvs)) else none) = some u := hu
      split at hu
      · rename_i hz
        cases hu
        obtain ⟨kvv, e3, r3⟩ := keyed_rep hk hp
        refine ⟨d1, kvv, e3, by rw [← r3.len]; exact hz, ?_⟩
        have r4 : KR X.K (Wf G io1) io1 (hid H1 D) kvs kvv := by
          clear e3 hz hk hp w2 hu
          induction r3 with
          | nil => exact .nil
          | cons h t ih => exact .cons ⟨h.1, h.2.mono mono_leave⟩ ih
        have e5 : L2.upd H1 D (.dK (mergeK [] kvv)) = L2.upd (hid H1 D) D (.dK (mergeK [] kvv)) := by
          funext b
          by_cases e : b = D
          · subst e; rw [upd_same, upd_same]
          · rw [upd_ne e, upd_ne e, hid_ne e]
        rw [e5]
        exact w2.hereS ok2 (same_upd hid_same) _ (ok2.newD hid_same (r4.merge .nil))
      · cases hu
end
end D
namespace D
open PySem L2
theorem bt_len : bootBuiltins "len" = some (.builtin "len") := by decide +kernel
theorem bt_isinstance : bootBuiltins "isinstance" = some (.builtin "isinstance") := by decide +kernel
theorem bt_max : bootBuiltins "max" = some (.builtin "max") := by decide +kernel
theorem bt_min : bootBuiltins "min" = some (.builtin "min") := by decide +kernel
theorem bt_abs : bootBuiltins "abs" = some (.builtin "abs") := by decide +kernel
theorem bt_all : bootBuiltins "all" = some (.builtin "all") := by decide +kernel
theorem bt_any : bootBuiltins "any" = some (.builtin "any") := by decide +kernel
theorem bt_sum : bootBuiltins "sum" = some (.builtin "sum") := by decide +kernel
theorem bt_sorted : bootBuiltins "sorted" = some (.builtin "sorted") := by decide +kernel
theorem bt_tuple : bootBuiltins "tuple" = some (.type "tuple") := by decide +kernel
theorem bt_list : bootBuiltins "list" = some (.type "list") := by decide +kernel
theorem bt_int : bootBuiltins "int" = some (.type "int") := by decide +kernel
theorem bt_str : bootBuiltins "str" = some (.type "str") := by decide +kernel
theorem bt_bool : bootBuiltins "bool" = some (.type "bool") := by decide +kernel
theorem bt_dict : bootBuiltins "dict" = some (.type "dict") := by decide +kernel
theorem bt_set : bootBuiltins "set" = some (.type "set") := by decide +kernel
theorem u65 {k : Nat} {A : Around} (hr : Room k A) : A.units + 65 < cLine := by have := hr.un; omega
section
variable {X : Cx} {xs : XS} {wx : WX} {pos : Pos}
theorem dv (i : Nat) {x : Str} (hN : X.N[i]? = some x := by rfl) (hv : Vis X.env.scope x := by first | exact Or.inl rfl | exact Or.inr (Or.inl rfl) | exact Or.inr (Or.inr rfl)) (hd : (x == ("__debug__" : Str)) = false := by decide) (hcd : (x == ("__classdict__" : Str)) = false := by decide) :
    PE X (.Name x pos) (tD X.K xs wx (var i)) := d_var i hN hv hd hcd
theorem gn (i : Nat) {x : Str} (hN : X.N.Nodup) (hi : X.N[i]? = some x := by rfl) (hx : Loc X.env.scope x := by first | exact Or.inl rfl | exact Or.inr rfl) (hf : X.fn x = true ∨ X.env.scope.names.lookup x = some .local := by first | exact .inl rfl | exact .inr rfl) : PG X (.Name x pos) (gD X.K (tgN i)) := g_name hN hi hx hf
theorem gc {x : Str} {p : Pos} (i : Nat) {es : List Expr} {is : List Nat} (t : GNames X es is) (hi : X.N[i]? = some x := by rfl) (hx : Loc X.env.scope x := by first | exact Or.inl rfl | exact Or.inr rfl) (hf : X.fn x = true ∨ X.env.scope.names.lookup x = some .local := by first | exact .inl rfl | exact .inr rfl) : GNames X (.Name x p :: es) (i :: is) := .cons hi hx hf t
theorem sset (i : Nat) {x : Str} {e : Expr} {f : DE} {pos' : Pos} (hN : X.N.Nodup) (he : PE X e (tD X.K xs wx f)) (hi : X.N[i]? = some x := by rfl) (hx : Loc X.env.scope x := by first | exact Or.inl rfl | exact Or.inr rfl) (hs : swapsWith e (some (.Name x pos')) pos.line X.env = Pure.pure false := by rfl)
    (hf : X.fn x = true ∨ X.env.scope.names.lookup x = some .local := by first | exact .inl rfl | exact .inr rfl) : PS X (.Assign [.Name x pos'] e pos) (tDS X.K xs wx (sSet i f)) := s_set hN hi hx he hs hf
theorem sown (i : Nat) {x : Str} {e : Expr} {f : DL} {pos' : Pos} (hN : X.N.Nodup) (he : PE X e (tDL X.K xs wx f)) (hi : X.N[i]? = some x := by rfl) (hx : Loc X.env.scope x := by first | exact Or.inl rfl | exact Or.inr rfl) (hs : swapsWith e (some (.Name x pos')) pos.line X.env = Pure.pure false := by rfl)
    (hf : X.fn x = true ∨ X.env.scope.names.lookup x = some .local := by first | exact .inl rfl | exact .inr rfl) : PS X (.Assign [.Name x pos'] e pos) (tDS X.K xs wx (sOwn i f)) := s_own hN hi hx he hs hf
theorem sapp (i : Nat) {x : Str} {e : Expr} {f : DE} {p1 p2 : Pos} (he : PE X e (tD X.K xs wx f)) (hN : X.N[i]? = some x := by rfl) (hv : Vis X.env.scope x := by first | exact Or.inl rfl | exact Or.inr (Or.inl rfl) | exact Or.inr (Or.inr rfl)) (hd : (x == ("__debug__" : Str)) = false := by decide) (hcd : (x == ("__classdict__" : Str)) = false := by decide)
    (hfew : ((backTo pos (starEach [e] X.env)).all (fun x => !x.1) && (backToKw pos (keywordEach [] X.env)).all (fun x => x.1.isSome) && decide ([e].length + ([] : List Keyword).length + (if ([] : List Keyword).isEmpty then 0 else 1) < 30)) = true := by rfl)
    (hline : (p1.endLine == pos.line) = true := by rfl) (hs : starEach (e :: []) X.env = (false, eval e X.env) :: starEach [] X.env := by rfl) (hplain : (backTo pos (starEach [] X.env)).any (·.1) = false := by rfl)
    (hsw : swapsWith (.Call (.Attribute (.Name x p2) "append" p1) [e] [] pos) none pos.line X.env = Pure.pure false := by rfl) {pos2 : Pos} :
    PS X (.Expr (.Call (.Attribute (.Name x p2) "append" p1) [e] [] pos) pos2) (tDS X.K xs wx (sApp i f)) := s_app hN hv he hd hcd hfew hline hs hplain hsw
/-- a list of the frame's own is never written from here on -/
def frz1 (s : Sl) : Sl := match s with
  | .own us => .val (.lst us)
  | s => s
def frzE (i : Nat) (env : Env) : Env := match env[i]? with
  | some s => env.set i (frz1 s)
  | none => env
def frzS (i : Nat) (f : DS) : DS := fun env st => f (frzE i env) st
theorem Fr.freeze {K : PySem.W.Frag} {F : Addr → Prop} {io : List Addr} {st : Store} {env : Env} {sg : L2.St} {H : Hp} (f : Fr K F io st env sg H) (i : Nat) : Fr K F io st (frzE i env) sg H ∧ ExtO io H (Ow env sg) io H (Ow (frzE i env) sg) := by
  unfold frzE
  split
  case h_2 => exact ⟨f, ExtO.refl _ _ _⟩
  rename_i s hs
  have hi : i < env.length := (List.getElem?_eq_some_iff.mp hs).1
  cases s with
  | un =>
    have e : env.set i (frz1 .un) = env := by
      apply List.ext_getElem?
      intro j
      by_cases hj : i = j
      · subst hj; rw [List.getElem?_set_self hi, hs]; rfl
      · rw [List.getElem?_set_ne hj]
    rw [e]; exact ⟨f, ExtO.refl _ _ _⟩
  | val u =>
    have e : env.set i (frz1 (.val u)) = env := by
      apply List.ext_getElem?
      intro j
      by_cases hj : i = j
      · subst hj; rw [List.getElem?_set_self hi, hs]; rfl
      · rw [List.getElem?_set_ne hj]
    rw [e]; exact ⟨f, ExtO.refl _ _ _⟩
  | own us =>
    obtain ⟨a, vs, e1, e2, r⟩ := f.slot hs
    have ow : ∀ b, Ow (env.set i (.val (.lst us))) sg b → Ow env sg b ∧ b ≠ a := fun b ⟨j, ws, h1, h2⟩ => by
      by_cases hj : i = j
      · subst hj; rw [List.getElem?_set_self hi] at h1; cases h1
      · rw [List.getElem?_set_ne hj] at h1
        refine ⟨⟨j, ws, h1, h2⟩, fun e => hj ?_⟩
        subst e
        exact f.dd i j b us ws hs h1 e1 h2
    have ex : ExtO io H (Ow env sg) io H (Ow (env.set i (.val (.lst us))) sg) := ⟨⟨[], by simp, fun _ h => nomatch h⟩, fun _ _ _ _ h => h, fun _ o h => ⟨o, h⟩, fun b h => .inl (ow b h).1⟩
    have m := ex.mono (F := F)
    have oa : Ow env sg a := ⟨i, us, hs, e1⟩
    refine ⟨⟨f.ok.mono fun b h => h.imp id fun z => (ow b z).1, ⟨by simp [f.er.len], fun j s o h1 h2 => ?_⟩, fun b h => f.nF b (ow b h).1, fun j k b us1 us2 h1 h2 h3 h4 => ?_⟩, ex⟩
    · by_cases hj : i = j
      · subst hj
        rw [List.getElem?_set_self hi] at h1
        rw [e1] at h2
        cases h1; cases h2
        refine ⟨.ref a, rfl, ?_⟩
        unfold Rep
        refine ⟨a, vs, rfl, ⟨e2, ?_⟩, r.mono m⟩
        rintro ((z | z) | z)
        · exact f.nF a oa z
        · exact (ow a z).2 rfl
        · exact f.ok.dj a z (.inr oa)
      · have g1 := h1
        rw [List.getElem?_set_ne hj] at h1
        have q := f.er.sl j s o h1 h2
        cases s with
        | un => trivial
        | val u' => obtain ⟨v', q1, q2⟩ := q; exact ⟨v', q1, q2.mono m⟩
        | own ws =>
          obtain ⟨b, vs1, q1, q2, q3, q4⟩ := q
          subst q1
          exact ⟨b, vs1, rfl, .inr ⟨j, ws, g1, h2⟩, q3, q4.mono m⟩
    · have back : ∀ (j : Nat) (w : List U), (env.set i (.val (.lst us)))[j]? = some (.own w) → env[j]? = some (.own w) := fun j w h => by
        by_cases hj : i = j
        · subst hj; rw [List.getElem?_set_self hi] at h; cases h
        · rw [List.getElem?_set_ne hj] at h; exact h
      exact f.dd j k b us1 us2 (back j us1 h1) (back k us2 h2) h3 h4
theorem s_frz (i : Nat) {s : Stmt} {f : DS} (h : PS X s (tDS X.K xs wx f)) : PS X s (tDS X.K xs wx (frzS i f)) := ps_imp h fun D sg H q => by
  obtain ⟨F, io, st, env, fr, w⟩ := q
  obtain ⟨f1, e1⟩ := fr.freeze i
  exact ⟨F, io, st, frzE i env, f1, WantsS.later w e1⟩
end
/-! ### facts of the top, to be asked of the written part -/
theorem fn_mk {P : Program} {w : World} {K : PySem.W.Frag} {mg : Str → Option Value} {base : Heap} {xs : XS} {x : Str} {s : Stmt} {k n m : Nat} {body : DS} {h : Heap} (XK : K.In h) (G : h.Ns mainGlobals mg) {f : Addr} {od an : Option Addr} {sl : Array (Option Value)} {oc kV dc pm cd ct : Value} {N ps : List Str}
    (a : PySem.W.nsIn K mainGlobals x = some (some (.ref f))) (l : K.lookup f = some ⟨oc, od, .func (PySem.W.fnOf x x (defArgs s) (defBody s) (defScope s) .none kV dc pm an cd ct), sl⟩) (c : PySem.W.codeIn K cd x = true) (kp : PySem.W.keepIn K (.ref f) = true)
    (S : FnScope N ps (defScope s)) (hb : ∀ (us : List Value), us.length = ps.length → bindArgs (PySem.W.fnOf x x (defArgs s) (defBody s) (defScope s) .none kV dc pm an cd ct) ⟨us, []⟩ = Pure.pure (ps.zip us)) (hn : ps.length = n) (hm : N.length = m)
    (B : ∀ f fd, Fun K x x s f fd → FnOk P w K mg base (L2.CX P w) k f fd ps (spD K xs ps.length (runB N.length ps.length body))) : Fn P w K mg base xs x k n (runB m n body) := by
  subst hn; subst hm
  have F := fun_mk (st := s) l c kp
  exact ⟨⟨f, _, ps, PySem.W.mg_of XK G a, kp, .all hb, B f _ F⟩, fun us st h => runB_bad us st h⟩
end D
namespace D
open PySem L2
/-- no exception at all -/
def noXS : XS := fun _ _ _ _ _ => False
theorem law_sp {K : PySem.W.Frag} {xs : XS} {H : Hp} {a : Addr} {ns : List Int} {f : List U → Store → Rs U} (hS : SqL K H a (ns.map V.int)) (h : ∃ st', f [.scr ns] [] = .ok (.bl true) st') : spD K xs 1 f [.ref a] H (fun v _ => v = .bl true) fun _ _ _ => False := by
  obtain ⟨st', e⟩ := h
  refine ⟨rfl, fun _ => False, [], [], [.scr ns], ⟨List.nodup_nil, fun _ h => (nomatch h), fun a h => h.elim False.elim (fun z => nomatch z), rfl, fun n ob a h => nomatch h⟩, .cons ?_ .nil, ?_⟩
  · unfold Rep
    exact ⟨a, rfl, hS.imp (fun x => ⟨x, fun z => z.elim id fun z => nomatch z⟩) id⟩
  · rw [e]
    exact fun io' H' _ _ v hv => hv.bl'
theorem cx_no {P : Program} {w : World} {outer : List PySem.Env} {H : Hp} {s : Shared} {e : Value} {s' : Shared} (h : L2.CX P w outer H s (fun _ _ _ => False) e s') : False := by
  obtain ⟨_, _, _, _, _, _, _, _, _, _, _, _, z⟩ := h
  exact z
section
variable {X : Cx} {xs : XS} {wx : WX} {pos : Pos}
theorem d_gInt {x : Str} {i : Int} (hg : Gl X x) (hm : ∃ t, X.mg x = some (Value.int i t)) (hd : (x == ("__debug__" : Str)) = false := by decide) : PE X (.Name x pos) (tD X.K xs wx (cst (.int i))) := by
  obtain ⟨t, hm⟩ := hm
  exact d_cst (pe_glob (v := .int i) hg hm ⟨t, rfl⟩ hd) fun _ _ _ => by unfold Rep; rfl
theorem d_gStr {x : Str} {i : Str} (hg : Gl X x) (hm : ∃ t, X.mg x = some (Value.str i t)) (hd : (x == ("__debug__" : Str)) = false := by decide) : PE X (.Name x pos) (tD X.K xs wx (cst (.str i))) := by
  obtain ⟨t, hm⟩ := hm
  exact d_cst (pe_glob (v := .str i) hg hm ⟨t, rfl⟩ hd) fun _ _ _ => by unfold Rep; rfl
end
end D
namespace D
open PySem L2
/-! ### running combinators -/
section
variable {A B : Type}
@[simp] theorem bind_ok (a : A) (st : Store) (k : A → Store → Rs B) : (Rs.ok a st).bind k = k a st := (rfl)
@[simp] theorem bind_ex (c : Str) (us : List (Str × U)) (st : Store) (k : A → Store → Rs B) : (Rs.ex c us st : Rs A).bind k = .ex c us st := (rfl)
@[simp] theorem bind_bad (k : A → Store → Rs B) : (Rs.bad : Rs A).bind k = .bad := (rfl)
@[simp] theorem of_some (a : A) (st : Store) : Rs.of (some a) st = .ok a st := (rfl)
@[simp] theorem of_none (st : Store) : Rs.of (none : Option A) st = .bad := (rfl)
@[simp] theorem out_ok (a : A) (st : Store) (env : Env) (k : A → Store → Out) : (Rs.ok a st).out env k = k a st := (rfl)
@[simp] theorem out_ex (c : Str) (us : List (Str × U)) (st : Store) (env : Env) (k : A → Store → Out) : (Rs.ex c us st : Rs A).out env k = .ex c us env st := (rfl)
@[simp] theorem out_bad (env : Env) (k : A → Store → Out) : (Rs.bad : Rs A).out env k = .bad := (rfl)
@[simp] theorem noEx_ok (a : A) (st : Store) : noEx (Rs.ok a st) = .ok a st := (rfl)
@[simp] theorem noEx_bad : noEx (Rs.bad : Rs A) = .bad := (rfl)
@[simp] theorem seq_nx (env : Env) (st : Store) (k : Env → Store → Out) : (Out.nx env st).seq k = k env st := (rfl)
@[simp] theorem seq_rt (u : U) (st : Store) (k : Env → Store → Out) : (Out.rt u st).seq k = .rt u st := (rfl)
@[simp] theorem seq_bk (env : Env) (st : Store) (k : Env → Store → Out) : (Out.bk env st).seq k = .bk env st := (rfl)
@[simp] theorem seq_ct (env : Env) (st : Store) (k : Env → Store → Out) : (Out.ct env st).seq k = .ct env st := (rfl)
@[simp] theorem seq_ex (c : Str) (us : List (Str × U)) (env : Env) (st : Store) (k : Env → Store → Out) : (Out.ex c us env st).seq k = .ex c us env st := (rfl)
@[simp] theorem seq_bad (k : Env → Store → Out) : Out.bad.seq k = .bad := (rfl)
@[simp] theorem fin_rt (u : U) (st : Store) : fin (.rt u st) = .ok u st := (rfl)
@[simp] theorem fin_nx (env : Env) (st : Store) : fin (.nx env st) = .ok .non st := (rfl)
@[simp] theorem fin_ex (c : Str) (us : List (Str × U)) (env : Env) (st : Store) : fin (.ex c us env st) = .ex c us st := (rfl)
@[simp] theorem fin_bad : fin .bad = .bad := (rfl)
end
section
variable (env : Env) (st : Store)
@[simp] theorem cst_ap (u : U) : cst u env st = .ok u st := (rfl)
theorem var_ap (i : Nat) : var i env st = match env[i]? with
  | some (.val u) => .ok u st
  | _ => .bad := (rfl)
@[simp] theorem var_zero (u : U) (e : Env) : var 0 (.val u :: e) st = .ok u st := (rfl)
@[simp] theorem var_succ (i : Nat) (s : Sl) (e : Env) : var (i + 1) (s :: e) st = var i e st := (rfl)
@[simp] theorem bin_ap (g : U → U → Option U) (a b : DE) : bin g a b env st = (a env st).bind fun u st1 => (b env st1).bind fun v st2 => Rs.of (g u v) st2 := (rfl)
@[simp] theorem anil_ap : anil env st = .ok [] st := (rfl)
@[simp] theorem acons_ap (a : DE) (b : DA) : acons a b env st = (a env st).bind fun u st1 => (b env st1).bind fun us st2 => .ok (u :: us) st2 := (rfl)
@[simp] theorem appN_ap (g : List U → Option U) (a : DA) : appN g a env st = (a env st).bind fun us st1 => Rs.of (g us) st1 := (rfl)
@[simp] theorem appU_ap (g : List U → Store → Rs U) (a : DA) : appU g a env st = (a env st).bind fun us st1 => g us st1 := (rfl)
@[simp] theorem tst_ap (a : DE) : tst a env st = (a env st).bind fun u st1 => match u with
  | .bl b => .ok b st1
  | _ => .bad := (rfl)
@[simp] theorem andT_ap (a b : DT) : andT a b env st = (a env st).bind fun c st1 => if c = true then b env st1 else .ok false st1 := (rfl)
@[simp] theorem orT_ap (a b : DT) : orT a b env st = (a env st).bind fun c st1 => if c = true then .ok true st1 else b env st1 := (rfl)
@[simp] theorem notT_ap (a : DT) : notT a env st = (a env st).bind fun c st1 => .ok (!c) st1 := (rfl)
@[simp] theorem yesT_ap : yesT env st = .ok true st := (rfl)
@[simp] theorem chain_ap (g h : U → U → Option U) (a b c : DE) : chain g h a b c env st = (a env st).bind fun u st1 => (b env st1).bind fun v st2 => match g u v with
  | some (.bl k) => if k = true then (c env st2).bind fun w st3 => Rs.of (h v w) st3 else .ok (.bl false) st2
  | _ => .bad := (rfl)
@[simp] theorem andV_ap (a b : DE) : andV a b env st = (a env st).bind fun u st1 => match u with
  | .bl c => if c = true then b env st1 else .ok (.bl false) st1
  | _ => .bad := (rfl)
@[simp] theorem orV_ap (a b : DE) : orV a b env st = (a env st).bind fun u st1 => match u with
  | .bl c => if c = true then .ok (.bl true) st1 else b env st1
  | _ => .bad := (rfl)
@[simp] theorem notV_ap (a : DE) : notV a env st = (a env st).bind fun u st1 => match u with
  | .bl c => .ok (.bl (!c)) st1
  | _ => .bad := (rfl)
@[simp] theorem ifE_ap (c : DT) (a b : DE) : ifE c a b env st = (c env st).bind fun t st1 => if t = true then a env st1 else b env st1 := (rfl)
@[simp] theorem neg1D_ap (a : DE) : neg1D a env st = (a env st).bind fun u st1 => Rs.of (neg1 u) st1 := (rfl)
@[simp] theorem newL_ap (f : DL) : newL f env st = (f env st).bind fun us st1 => .ok (.lst us) st1 := (rfl)
@[simp] theorem szDL_ap (f : DA) : szDL f env st = (f env st).bind fun us st1 => if us.length ≤ sizeLine then .ok us st1 else .bad := (rfl)
@[simp] theorem itemsD_ap (f : DE) : itemsD f env st = (f env st).bind fun u st1 => Rs.of (items u) st1 := (rfl)
@[simp] theorem itA_ap (g : List U → Option (List U)) (f : DA) : itA g f env st = (f env st).bind fun us st1 => Rs.of (g us) st1 := (rfl)
@[simp] theorem compD_ap (f : DL) (vs : List Nat) (t : Tg) (c : DT) (e : DE) : compD f vs t c e env st = (f env st).bind fun us st1 => if us.length ≤ sizeLine then noEx (compL t c e us (wipeE env vs) st1) else .bad := (rfl)
@[simp] theorem noO_ap : noO env st = .ok none st := (rfl)
@[simp] theorem soO_ap (f : DE) : soO f env st = (f env st).bind fun u st1 => match u with
  | .int i => .ok (some i) st1
  | _ => .bad := (rfl)
@[simp] theorem slD_ap (f : DE) (a b : DO) : slD f a b env st = (f env st).bind fun u st1 => (a env st1).bind fun lo st2 => (b env st2).bind fun hi st3 => Rs.of (sl3 u lo hi) st3 := (rfl)
@[simp] theorem dispD_ap (ps : List (DE × DE)) : dispD ps env st = (noEx (pairsE ps env st)).bind fun l st1 => Rs.of (dispU l) st1 := (rfl)
@[simp] theorem sNil_ap : sNil env st = .nx env st := (rfl)
@[simp] theorem sSeq_ap (f g : DS) : sSeq f g env st = (f env st).seq g := (rfl)
@[simp] theorem sExpr_ap (f : DE) : sExpr f env st = (f env st).out env fun _ st1 => .nx env st1 := (rfl)
@[simp] theorem sRet_ap (f : DE) : sRet f env st = (f env st).out env fun u st1 => .rt u st1 := (rfl)
@[simp] theorem sRetN_ap : sRetN env st = .rt .non st := (rfl)
@[simp] theorem sIf_ap (c : DT) (f g : DS) : sIf c f g env st = (c env st).out env fun b st1 => if b = true then f env st1 else g env st1 := (rfl)
@[simp] theorem sSet_ap (i : Nat) (f : DE) : sSet i f env st = (f env st).out env fun u st1 => .nx (env.set i (.val u)) st1 := (rfl)
@[simp] theorem sOwn_ap (i : Nat) (f : DL) : sOwn i f env st = (f env st).out env fun us st1 => if i < env.length then .nx (env.set i (.own us)) st1 else .bad := (rfl)
@[simp] theorem sApp_ap (i : Nat) (f : DE) : sApp i f env st = match env[i]? with
  | some (.own us) => (f env st).out env fun u st1 => if us.length < sizeLine then .nx (env.set i (.own (us ++ [u]))) st1 else .bad
  | _ => .bad := (rfl)
@[simp] theorem frzS_ap (i : Nat) (f : DS) : frzS i f env st = f (frzE i env) st := (rfl)
@[simp] theorem sFor_ap (f : DL) (t : Tg) (b : DS) : sFor f t b env st = (f env st).out env fun us st1 => forL t b us env st1 := (rfl)
@[simp] theorem setE_nil : setE env [] = env := (rfl)
@[simp] theorem setE_cons (p : Nat × U) (l : List (Nat × U)) : setE env (p :: l) = setE (env.set p.1 (.val p.2)) l := (rfl)
@[simp] theorem tgN_ap (i : Nat) (u : U) : tgN i u = some [(i, u)] := (rfl)
end
@[simp] theorem runB_ap (m n : Nat) (body : DS) (us : List U) (st : Store) : runB m n body us st = if us.length = n then fin (body (env0 m us) st) else .bad := (rfl)
@[simp] theorem env0_ap (m : Nat) (us : List U) : env0 m us = us.map Sl.val ++ List.replicate (m - us.length) .un := (rfl)
@[simp] theorem sizeLine_val : sizeLine = 16777216 := by decide +kernel
theorem for_nil (t : Tg) (b : DS) (env : Env) (st : Store) : forL t b [] env st = .nx env st := (rfl)
theorem comp_nil (t : Tg) (c : DT) (e : DE) (env : Env) (st : Store) : compL t c e [] env st = .ok [] st := (rfl)
theorem comp_cons (t : Tg) (c : DT) (e : DE) (u : U) (us : List U) (env : Env) (st : Store) : compL t c e (u :: us) env st = match t u with
    | none => .bad
    | some l => (c (setE env l) st).bind fun b st1 => if b = true then (e (setE env l) st1).bind fun v st2 => (compL t c e us env st2).bind fun r st3 => .ok (v :: r) st3 else compL t c e us env st1 := (rfl)
/-- a comprehension whose test and element are told -/
theorem comp_map {t : Tg} {c : DT} {e : DE} {env : Env} {st : Store} (g : U → Option U) : ∀ (us : List U), (∀ u ∈ us, ∃ l, t u = some l ∧ match g u with
      | some v => c (setE env l) st = .ok true st ∧ e (setE env l) st = .ok v st
      | none => c (setE env l) st = .ok false st) → compL t c e us env st = .ok (us.filterMap g) st
  | [], _ => rfl
  | u :: us, h => by
    obtain ⟨l, ht, hu⟩ := h u List.mem_cons_self
    have ih := comp_map g us fun x hx => h x (List.mem_cons_of_mem _ hx)
    rw [comp_cons, ht]
    cases hg : g u with
    | none =>
      rw [hg] at hu
      simp only [hu, bind_ok, Bool.false_eq_true, if_false, ih, List.filterMap_cons, hg]
    | some v =>
      rw [hg] at hu
      simp only [hu.1, hu.2, bind_ok, if_true, ih, List.filterMap_cons, hg]
/-- all elements, no test -/
theorem comp_all {t : Tg} {e : DE} {env : Env} {st : Store} (g : U → U) (us : List U) (h : ∀ u ∈ us, ∃ l, t u = some l ∧ e (setE env l) st = .ok (g u) st) : compL t yesT e us env st = .ok (us.map g) st := by
  rw [comp_map (fun u => some (g u)) us fun u hu => ?_]
  · rw [List.filterMap_eq_map']
  · obtain ⟨l, h1, h2⟩ := h u hu
    exact ⟨l, h1, rfl, h2⟩
theorem comp_allM {T : Type} {t : Tg} {e : DE} {env : Env} {st : Store} {f g : T → U} : ∀ (l : List T), (∀ c ∈ l, ∃ a, t (f c) = some a ∧ e (setE env a) st = .ok (g c) st) → compL t yesT e (l.map f) env st = .ok (l.map g) st
  | [], _ => rfl
  | c :: l, h => by
    obtain ⟨a, h1, h2⟩ := h c List.mem_cons_self
    have ih := comp_allM l fun x hx => h x (List.mem_cons_of_mem _ hx)
    rw [List.map_cons, comp_cons, h1]
    simp only [yesT_ap, bind_ok, if_true, h2, ih, List.map_cons]
theorem comp_filterM {T : Type} {t : Tg} {q : DT} {e : DE} {env : Env} {st : Store} {f g : T → U} {p : T → Bool} : ∀ (l : List T), (∀ c ∈ l, ∃ a, t (f c) = some a ∧ q (setE env a) st = .ok (p c) st ∧ (p c = true → e (setE env a) st = .ok (g c) st)) → compL t q e (l.map f) env st = .ok ((l.filter p).map g) st
  | [], _ => rfl
  | c :: l, h => by
    obtain ⟨a, h1, h2, h3⟩ := h c List.mem_cons_self
    have ih := comp_filterM l fun x hx => h x (List.mem_cons_of_mem _ hx)
    rw [List.map_cons, comp_cons, h1]
    simp only [h2, bind_ok]
    cases hp : p c with
    | true => simp only [if_true, h3 hp, bind_ok, ih, List.filter_cons, hp, List.map_cons]
    | false => simp only [Bool.false_eq_true, if_false, ih, List.filter_cons, hp]
theorem for_cons (t : Tg) (b : DS) (u : U) (us : List U) (env : Env) (st : Store) : forL t b (u :: us) env st = match t u with
    | none => .bad
    | some l => match b (setE env l) st with
      | .nx env2 st2 => forL t b us env2 st2
      | .ct env2 st2 => forL t b us env2 st2
      | .bk env2 st2 => .nx env2 st2
      | .rt u st2 => .rt u st2
      | .ex c us env2 st2 => .ex c us env2 st2
      | .bad => .bad := rfl
/-- a loop by what holds of the slots between its turns -/
theorem for_inv {t : Tg} {b : DS} {st : Store} (I : List U → Env → Prop) : ∀ (us : List U) (env : Env), I us env → (∀ u r env, u :: r <:+ us → I (u :: r) env → ∃ l env', t u = some l ∧ (b (setE env l) st = .nx env' st ∨ b (setE env l) st = .ct env' st) ∧ I r env') → ∃ env', forL t b us env st = .nx env' st ∧ I [] env'
  | [], env, h, _ => ⟨env, rfl, h⟩
  | u :: us, env, h, step => by
    obtain ⟨l, env1, h1, h2, h3⟩ := step u us env (List.suffix_refl _) h
    obtain ⟨env2, e, q⟩ := for_inv I us env1 h3 fun v r e hs hi => step v r e (hs.trans (List.suffix_cons _ _)) hi
    refine ⟨env2, ?_, q⟩
    rw [for_cons, h1]
    rcases h2 with h2 | h2
    · simp only [h2, e]
    · simp only [h2, e]
end D
namespace D
open PySem L2
/-- data of at most so many levels, texts of code points -/
def okU : Nat → U → Bool
  | _, .non => true
  | _, .bl _ => true
  | _, .int _ => true
  | _, .str x => x.cps.all (· < 0x110000)
  | n + 1, .lst us => us.all (okU n)
  | n + 1, .tup us => us.all (okU n)
  | _, _ => false
theorem okU_pd : ∀ (n : Nat) (u : U), okU n u = true → (pd u).canLay0 = true ∧ (pd u).depth ≤ n := by
  intro n
  induction n with
  | zero =>
    intro u h
    cases u with
    | non => exact ⟨by unfold pd PyData.canLay0; rfl, by unfold pd PyData.depth; exact Nat.le_refl _⟩
    | bl b => exact ⟨by unfold pd PyData.canLay0; rfl, by unfold pd PyData.depth; exact Nat.le_refl _⟩
    | int b => exact ⟨by unfold pd PyData.canLay0; rfl, by unfold pd PyData.depth; exact Nat.le_refl _⟩
    | str b => exact ⟨by unfold pd PyData.canLay0; exact h, by unfold pd PyData.depth; exact Nat.le_refl _⟩
    | _ => unfold okU at h; cases h
  | succ n ih =>
    have all : ∀ us : List U, us.all (okU n) = true → PyData.canLayAll0 (pds us) = true ∧ PyData.depthAll (pds us) ≤ n := by
      intro us
      induction us with
      | nil => intro _; exact ⟨by unfold pds PyData.canLayAll0; rfl, by unfold pds PyData.depthAll; exact Nat.zero_le _⟩
      | cons u us ihu =>
        intro h
        rw [List.all_cons, Bool.and_eq_true] at h
        obtain ⟨h1, h2⟩ := ih u h.1
        obtain ⟨h3, h4⟩ := ihu h.2
        refine ⟨by unfold pds PyData.canLayAll0; rw [h1, h3]; rfl, ?_⟩
        unfold pds PyData.depthAll
        exact Nat.max_le.mpr ⟨h2, h4⟩
    intro u h
    cases u with
    | non => exact ⟨by unfold pd PyData.canLay0; rfl, by unfold pd PyData.depth; exact Nat.zero_le _⟩
    | bl b => exact ⟨by unfold pd PyData.canLay0; rfl, by unfold pd PyData.depth; exact Nat.zero_le _⟩
    | int b => exact ⟨by unfold pd PyData.canLay0; rfl, by unfold pd PyData.depth; exact Nat.zero_le _⟩
    | str b => exact ⟨by unfold pd PyData.canLay0; exact h, by unfold pd PyData.depth; exact Nat.zero_le _⟩
    | lst us =>
      unfold okU at h
      obtain ⟨h1, h2⟩ := all us h
      exact ⟨by unfold pd PyData.canLay0; exact h1, by unfold pd PyData.depth; omega⟩
    | tup us =>
      unfold okU at h
      obtain ⟨h1, h2⟩ := all us h
      exact ⟨by unfold pd PyData.canLay0; exact h1, by unfold pd PyData.depth; omega⟩
    | _ => unfold okU at h; cases h
theorem okD_of {u : U} (n : Nat) (h : okU n u = true) (hn : n ≤ 64 := by decide) : okD u = true := by
  obtain ⟨h1, h2⟩ := okU_pd n u h
  unfold okD SeqAt.shaped
  rw [h1, decide_eq_true (Nat.le_trans h2 hn)]; rfl
theorem eqU_nil (us : List U) : eqU (.lst us) (.lst []) = us.isEmpty := by
  cases us with
  | nil => unfold eqU pd pds PyData.eqv PyData.eqvAll; rfl
  | cons u us => unfold eqU pd pds PyData.eqv PyData.eqvAll; rfl
theorem eqU_nilT (us : List U) : eqU (.tup us) (.tup []) = us.isEmpty := by
  cases us with
  | nil => unfold eqU pd pds PyData.eqv PyData.eqvAll; rfl
  | cons u us => unfold eqU pd pds PyData.eqv PyData.eqvAll; rfl
theorem eqU_str (x y : Str) : eqU (.str x) (.str y) = decide (x = y) := by
  unfold eqU pd PyData.eqv
  by_cases h : x = y
  · subst h; simp
  · rw [decide_eq_false h]; exact beq_eq_false_iff_ne.mpr h
/-- a loop over the numbers below n -/
theorem for_rng {j : Nat} {b : DS} {st : Store} (n : Nat) (I : Nat → Env → Prop) {env : Env} (h0 : I 0 env) (step : ∀ k env, k < n → I k env → ∃ env', (b (env.set j (.val (.int (k : Nat)))) st = .nx env' st ∨ b (env.set j (.val (.int (k : Nat)))) st = .ct env' st) ∧ I (k + 1) env') :
    ∃ env', forL (tgN j) b ((List.range n).map fun i => U.int (i : Nat)) env st = .nx env' st ∧ I n env' := by
  obtain ⟨env', h1, k, h2, h3, h4⟩ := for_inv (t := tgN j) (b := b) (st := st) (fun r env => ∃ k, r = ((List.range n).drop k).map (fun i => U.int (i : Nat)) ∧ k ≤ n ∧ I k env) ((List.range n).map fun i => U.int (i : Nat)) env ⟨0, by simp, Nat.zero_le _, h0⟩ (fun u r env _ hI => by
    obtain ⟨k, hr, hk, hI⟩ := hI
    have hlt : k < n := by
      refine Decidable.byContradiction fun z => ?_
      rw [List.drop_eq_nil_of_le (by simpa using Nat.le_of_not_lt z)] at hr
      cases hr
    rw [List.drop_eq_getElem_cons (by simpa using hlt), List.map_cons] at hr
    injection hr with hu hr
    rw [List.getElem_range] at hu
    subst hu
    obtain ⟨env', h1, h2⟩ := step k env hlt hI
    exact ⟨_, env', rfl, h1, k + 1, hr, hlt, h2⟩)
  refine ⟨env', h1, ?_⟩
  have : k = n := by
    have := congrArg List.length h2
    simp at this
    omega
  rw [← this]; exact h4
/-- a loop over the things of a list -/
theorem for_lst {T : Type} {t : Tg} {b : DS} {st : Store} {f : T → U} (I : List T → Env → Prop) : ∀ (l : List T) (env : Env), I l env → (∀ u r env, u ∈ l → I (u :: r) env → ∃ a env', t (f u) = some a ∧ (b (setE env a) st = .nx env' st ∨ b (setE env a) st = .ct env' st) ∧ I r env') → ∃ env', forL t b (l.map f) env st = .nx env' st ∧ I [] env'
  | [], env, h, _ => ⟨env, rfl, h⟩
  | u :: us, env, h, step => by
    obtain ⟨l, env1, h1, h2, h3⟩ := step u us env List.mem_cons_self h
    obtain ⟨env2, e, q⟩ := for_lst I us env1 h3 fun v r e hs hi => step v r e (List.mem_cons_of_mem _ hs) hi
    refine ⟨env2, ?_, q⟩
    rw [List.map_cons, for_cons, h1]
    rcases h2 with h2 | h2
    · simp only [h2, e]
    · simp only [h2, e]
theorem atI_at {A : Type} {l : List A} {k : Nat} {x : A} (h : l[k]? = some x) : atI l (k : Int) = some x := atI_nat h
end D
namespace C
open PySem L2 D
/-! ### a law's numbers out of a cell -/
def b_numbers : DS := (sSeq (sSet 2 (appN maxN (acons (var 0) (acons (bin sub2 (neg1D (cst (.int 1))) (var 0)) anil)))) (sSeq (sSet 3 (var 2)) (sSeq (sOwn 4 (szDL anil)) (sSeq (sFor (itA rng1 (acons (appN lenN (acons (var 1) anil)) anil)) (tgN 5) (sSeq (sIf (andT (tst (bin ge2 (var 2) (bin pow2 (cst (.int 10)) (cst (.int 18))))) (tst (bin gt2 (var 3) (cst (.int 0))))) (sSeq (sApp 4 (bin mod2 (var 3) (bin ix2 (var 1) (var 5)))) (sSeq (sSet 3 (bin fdiv2 (var 3) (bin ix2 (var 1) (var 5)))) sNil)) (sSeq (sSet 6 (bin mod2 (bin mul2 (bin add2 (bin add2 (bin mod2 (var 2) (cst (.int 2147483629))) (bin mul2 (cst (.int 7919)) (var 5))) (cst (.int 1))) (bin add2 (bin mul2 (cst (.int 2)) (var 5)) (cst (.int 48271)))) (cst (.int 2147483647)))) (sSeq (sApp 4 (bin mod2 (bin fdiv2 (bin mod2 (bin pow2 (var 6) (cst (.int 5))) (cst (.int 2147483587))) (cst (.int 16))) (bin ix2 (var 1) (var 5)))) sNil))) sNil)) (sSeq (frzS 4 (sRet (var 4))) sNil)))))
theorem smallI_of {i : Int} (h1 : -18446744073709551616 < i) (h2 : i < 18446744073709551616) : smallI i = true := by
  unfold smallI
  exact decide_eq_true ⟨by omega, by omega⟩
def b_numTurn : DS := (sSeq (sIf (andT (tst (bin ge2 (var 2) (bin pow2 (cst (.int 10)) (cst (.int 18))))) (tst (bin gt2 (var 3) (cst (.int 0))))) (sSeq (sApp 4 (bin mod2 (var 3) (bin ix2 (var 1) (var 5)))) (sSeq (sSet 3 (bin fdiv2 (var 3) (bin ix2 (var 1) (var 5)))) sNil)) (sSeq (sSet 6 (bin mod2 (bin mul2 (bin add2 (bin add2 (bin mod2 (var 2) (cst (.int 2147483629))) (bin mul2 (cst (.int 7919)) (var 5))) (cst (.int 1))) (bin add2 (bin mul2 (cst (.int 2)) (var 5)) (cst (.int 48271)))) (cst (.int 2147483647)))) (sSeq (sApp 4 (bin mod2 (bin fdiv2 (bin mod2 (bin pow2 (var 6) (cst (.int 5))) (cst (.int 2147483587))) (cst (.int 16))) (bin ix2 (var 1) (var 5)))) sNil))) sNil)
set_option maxHeartbeats 2000000 in
theorem turn1 (n left s : Int) (k : Nat) (ds : List U) (c : U) (szs : U) (s6 : Sl) (st : Store) (hc1 : 1000000000000000000 ≤ n) (hc2 : 0 < left) (hs1 : 0 < s) (hs2 : s < 1073741824) (hdl : ds.length < 16777216) (hix : ix2 szs (.int (k : Int)) = some (.int s)) :
    b_numTurn [.val c, .val szs, .val (.int n), .val (.int left), .own ds, .val (.int (k : Int)), s6] st = .nx [.val c, .val szs, .val (.int n), .val (.int (left / s)), .own (ds ++ [.int (left % s)]), .val (.int (k : Int)), s6] st := by
  unfold b_numTurn
  simp [ge2, gt2, pow2, hc1, hc2, mod2, fdiv2, hix, hs1, hs2, hdl]
theorem sm7919 : smallI 7919 = true := smallI_of (by decide) (by decide)
theorem sm2 : smallI 2 = true := smallI_of (by decide) (by decide)
set_option maxHeartbeats 2000000 in
theorem turn2 (n left s : Int) (k : Nat) (ds : List U) (c : U) (szs : U) (s6 : Sl) (st : Store) (hc : ¬ (1000000000000000000 ≤ n ∧ 0 < left)) (hs1 : 0 < s) (hk : k ≤ 1000) (hdl : ds.length < 16777216) (hix : ix2 szs (.int (k : Int)) = some (.int s)) :
    ∃ x y, b_numTurn [.val c, .val szs, .val (.int n), .val (.int left), .own ds, .val (.int (k : Int)), s6] st = .nx [.val c, .val szs, .val (.int n), .val (.int left), .own (ds ++ [.int (x % s)]), .val (.int (k : Int)), .val (.int y)] st := by
  have q1 : 0 ≤ n % 2147483629 ∧ n % 2147483629 < 2147483629 := ⟨Int.emod_nonneg _ (by decide), Int.emod_lt_of_pos _ (by decide)⟩
  generalize hone : (n % 2147483629 + 7919 * (k : Int) + 1) * (2 * (k : Int) + 48271) % 2147483647 = one
  have q2 : 0 ≤ one ∧ one < 2147483647 := by rw [← hone]; exact ⟨Int.emod_nonneg _ (by decide), Int.emod_lt_of_pos _ (by decide)⟩
  have sm3 : smallI (n % 2147483629 + 7919 * (k : Int) + 1) = true := smallI_of (by omega) (by omega)
  have q3 : one.natAbs < 18446744073709551616 := by omega
  refine ⟨one ^ 5 % 2147483587 / 16, one, ?_⟩
  unfold b_numTurn
  by_cases h1 : 1000000000000000000 ≤ n
  · have h2 : ¬ 0 < left := fun z => hc ⟨h1, z⟩
    simp [ge2, gt2, pow2, h1, h2, mod2, fdiv2, add2, mul2, sm7919, sm2, sm3, hone, q3, hix, hs1, hdl]
  · simp [ge2, gt2, pow2, h1, mod2, fdiv2, add2, mul2, sm7919, sm2, sm3, hone, q3, hix, hs1, hdl]
theorem rng1_nat (n : Nat) (h : n ≤ 1000000) : rng1 [.int (n : Int)] = some ((List.range n).map fun i => U.int (i : Nat)) := by
  unfold rng1
  dsimp only
  rw [if_pos ⟨by omega, by omega⟩, Int.toNat_natCast]
set_option maxHeartbeats 2000000 in
/-- each number lies below its size -/
theorem numbers_loop (c : Int) (sizes : List Int) (hs : ∀ s ∈ sizes, 0 < s ∧ s < 1073741824) (hl : sizes.length ≤ 1000) (st : Store) :
    ∃ (ds : List Int) (left : Int) (s5 s6 : Sl), forL (tgN 5) b_numTurn ((List.range sizes.length).map fun i => U.int (i : Nat)) [.val (.int c), .val (.lst (sizes.map .int)), .val (.int (if -1 - c > c then -1 - c else c)), .val (.int (if -1 - c > c then -1 - c else c)), .own [], .un, .un] st = .nx [.val (.int c), .val (.lst (sizes.map .int)), .val (.int (if -1 - c > c then -1 - c else c)), .val (.int left), .own (ds.map .int), s5, s6] st ∧ ds.length = sizes.length ∧ ∀ (i : Nat) (s d : Int), sizes[i]? = some s → ds[i]? = some d → 0 ≤ d ∧ d < s := by
  obtain ⟨env', he, hI⟩ := for_inv (t := tgN 5) (st := st) (b := b_numTurn)
    (fun r env => ∃ (ds : List Int) (left : Int) (s5 s6 : Sl), env = [.val (.int c), .val (.lst (sizes.map .int)), .val (.int (if -1 - c > c then -1 - c else c)), .val (.int left), .own (ds.map .int), s5, s6] ∧
      r = ((List.range sizes.length).drop ds.length).map (fun i => U.int (i : Nat)) ∧ ds.length ≤ sizes.length ∧ 0 ≤ left ∧ ∀ (i : Nat) (s d : Int), sizes[i]? = some s → ds[i]? = some d → 0 ≤ d ∧ d < s)
    ((List.range sizes.length).map fun i => U.int (i : Nat)) [.val (.int c), .val (.lst (sizes.map .int)), .val (.int (if -1 - c > c then -1 - c else c)), .val (.int (if -1 - c > c then -1 - c else c)), .own [], .un, .un]
    ⟨[], _, .un, .un, rfl, rfl, Nat.zero_le _, by split <;> omega, fun i s d _ h => by simp at h⟩
    (fun u r env _ hI => by
      obtain ⟨ds, left, s5, s6, rfl, hr, hd, h0, hb⟩ := hI
      have hlt : ds.length < sizes.length := by
        refine Decidable.byContradiction fun z => ?_
        rw [List.drop_eq_nil_of_le (by simpa using Nat.le_of_not_lt z)] at hr
        cases hr
      rw [List.drop_eq_getElem_cons (by simpa using hlt), List.map_cons] at hr
      injection hr with hu hr
      rw [List.getElem_range] at hu
      subst hu
      obtain ⟨s, hsz⟩ : ∃ s, sizes[ds.length]? = some s := ⟨_, List.getElem?_eq_getElem hlt⟩
      obtain ⟨hs1, hs2⟩ := hs s (List.mem_of_getElem? hsz)
      have hix : ix2 (.lst (sizes.map .int)) (.int (ds.length : Int)) = some (.int s) := atI_at (by rw [List.getElem?_map, hsz]; rfl)
      have ext : ∀ x : Int, 0 ≤ x ∧ x < s → ∀ (i : Nat) (s d : Int), sizes[i]? = some s → (ds ++ [x])[i]? = some d → 0 ≤ d ∧ d < s := fun x hx i s' d' e1 e2 => by
        by_cases hi : i < ds.length
        · rw [List.getElem?_append_left hi] at e2
          exact hb i s' d' e1 e2
        · rw [List.getElem?_append_right (Nat.le_of_not_lt hi)] at e2
          have hi2 : i = ds.length := by
            have := (List.getElem?_eq_some_iff.mp e2).1
            simp at this
            omega
          subst hi2
          rw [Nat.sub_self] at e2
          simp at e2
          rw [hsz] at e1
          cases e1
          subst e2
          exact hx
      have hm : ∀ y : Int, 0 ≤ y % s ∧ y % s < s := fun y => ⟨Int.emod_nonneg _ (by omega), Int.emod_lt_of_pos _ hs1⟩
      have hdl : (ds.map U.int).length < 16777216 := by rw [List.length_map]; omega
      have happ : ∀ x : Int, (ds ++ [x]).map U.int = ds.map U.int ++ [U.int x] := fun x => by simp
      refine ⟨[(5, .int (ds.length : Int))], ?_⟩
      by_cases hc : 1000000000000000000 ≤ (if -1 - c > c then -1 - c else c) ∧ 0 < left
      · refine ⟨_, rfl, .inl (turn1 _ left s ds.length _ _ _ s6 st hc.1 hc.2 hs1 hs2 hdl hix), ds ++ [left % s], left / s, _, s6, by rw [happ], ?_, ?_, ?_, ext _ (hm left)⟩
        · rw [List.length_append]; exact hr
        · rw [List.length_append]; exact hlt
        · exact Int.ediv_nonneg h0 (by omega)
      · obtain ⟨x, y, e⟩ := turn2 _ left s ds.length (ds.map U.int) (.int c) _ s6 st hc hs1 (by omega) hdl hix
        refine ⟨_, rfl, .inl e, ds ++ [x % s], left, _, _, by rw [happ], ?_, ?_, h0, ext _ (hm x)⟩
        · rw [List.length_append]; exact hr
        · rw [List.length_append]; exact hlt)
  obtain ⟨ds, left, s5, s6, rfl, hr, hd, _, hb⟩ := hI
  have hlen : ds.length = sizes.length := by
    have : ((List.range sizes.length).drop ds.length).length = 0 := by
      have := congrArg List.length hr
      simpa using this.symm
    simp at this
    omega
  exact ⟨ds, left, s5, s6, he, hlen, hb⟩
theorem numbers_ok (c : Int) (sizes : List Int) (hs : ∀ s ∈ sizes, 0 < s ∧ s < 1073741824) (hl : sizes.length ≤ 1000) (st : Store) :
    ∃ ds : List Int, runB 7 2 b_numbers [.int c, .lst (sizes.map .int)] st = .ok (.lst (ds.map .int)) st ∧ ds.length = sizes.length ∧ ∀ (i : Nat) (s d : Int), sizes[i]? = some s → ds[i]? = some d → 0 ≤ d ∧ d < s := by
  obtain ⟨ds, left, s5, s6, he, hlen, hb⟩ := numbers_loop c sizes hs hl st
  refine ⟨ds, ?_, hlen, hb⟩
  have hrng := rng1_nat sizes.length (by omega)
  have e2 : b_numbers = (sSeq (sSet 2 (appN maxN (acons (var 0) (acons (bin sub2 (neg1D (cst (.int 1))) (var 0)) anil)))) (sSeq (sSet 3 (var 2)) (sSeq (sOwn 4 (szDL anil)) (sSeq (sFor (itA rng1 (acons (appN lenN (acons (var 1) anil)) anil)) (tgN 5) b_numTurn) (sSeq (frzS 4 (sRet (var 4))) sNil))))) := rfl
  rw [e2]
  simp [maxN, sub2, neg1, lenN, hrng, he, frzE, frz1, -gt_iff_lt]
end C
namespace D
open PySem L2
/-! ### enumerate of a tuple -/
def IteT (K : PySem.W.Frag) (t : Addr) : It where
  go := fun n H => ∃ (ws : List V) (w : V), SqT K H t ws ∧ ws[n]? = some w
  yld := fun n H v H' => ∃ q w, v = .ref q ∧ H q = none ∧ H' = upd H q (.tup [.int (n : Nat), w]) ∧ ∀ ws, SqT K H t ws → ws[n]? = some w
  stop := fun n H => ∃ ws : List V, SqT K H t ws ∧ ws.length ≤ n
theorem draws_over {P : Program} {w : World} {B : Around} (hB : B.handled = none) (j t : Addr) (n : Nat) (its : Array Value) (hn : its[n]? = none) :
    Draws P w B j [j, t] n (fun _ _ => True) (fun m h => m = n ∧ h.IsTupleIter j t n ∧ h.IsTuple t its) where
  live := fun _ _ q => let ⟨o, ho, _⟩ := q.2.1; ⟨o, ho⟩
  frame := fun _ _ _ q kp => ⟨q.1, q.2.1.at fun o z => kp j (by simp) o z, q.2.2.at fun o z => kp t (by simp) o z⟩
  item := fun m sh Q E lt q hQ => absurd q.1 (Nat.ne_of_lt lt)
  done := fun sh Q E q hE => wpAny_nextOf_tuple_end hB q.2.1 q.2.2 hn hE
theorem turn_enumT {P : Program} {w : World} {K : PySem.W.Frag} {els : List Expr} {k2 : Nat} {tp : Pos} (t e j : Addr) (htj : t ≠ j) (het : e ≠ t) (hej : e ≠ j) :
    Turn P w K (.Tuple els k2 tp) (IteT K t) [e, j] e (fun n h => (∃ was, IsEnum h e j ((n : Nat) : Int) was) ∧ h.IsTupleIter j t n) := by
  have two : ∀ b, b ∈ [e, j] → b = e ∨ b = j := fun b hb => by simpa using hb
  refine ⟨List.mem_cons_self, fun n h q b hb => ?_, fun n h h' q kp => ?_, ?_, ?_, ?_⟩
  · obtain ⟨⟨was, he⟩, ⟨o, ho, _, hd⟩⟩ := q
    rcases two b hb with z | z
    · rw [z]; exact ⟨_, he, fun v y => nomatch y⟩
    · rw [z]; exact ⟨o, ho, fun v y => by rw [hd] at y; cases y⟩
  · obtain ⟨⟨was, he⟩, hj⟩ := q
    exact ⟨⟨was, kp e List.mem_cons_self _ he⟩, hj.at fun o z => kp j (by simp) o z⟩
  · intro X eP ew eK calm n pins sh sg H E I fpk q go
    subst eP; subst ew; subst eK
    obtain ⟨⟨was, he⟩, hj⟩ := q
    obtain ⟨ws, w, sq, hw⟩ := go
    obtain ⟨its, rv, p, _⟩ := I.tuple sq
    obtain ⟨u, hu, ru⟩ := rv.get hw
    have p' : sh.heap.IsTuple t its.toArray := p
    have le : e < sh.heap.objs.size := Heap.lt_size he
    have lj : j < sh.heap.objs.size := by obtain ⟨_, z, _⟩ := hj; exact Heap.lt_size z
    have hn : n < its.length := (List.getElem?_eq_some_iff.mp hu).1
    refine wpAny_pyNext_enum_itemD (Draws.tuple (prog := X.prog) (w := X.w) (A := X.A.in1) (I.ok.hd calm) j t htj its.toArray) he ⟨hj, p'⟩ (by simpa using hn) hej (by simp [hej, het]) fun x h' tk hx out st' new hsz kp => ?_
    have hxu : x = u := by
      have hx : its.toArray[n]? = some x := hx
      rw [List.getElem?_toArray, hu] at hx
      exact (Option.some.inj hx).symm
    subst hxu
    refine ⟨_, rfl, wpAny_letOwnedTupleGo_enum (s := { sh with heap := h', toks := tk + 1 }) out fun h2 he2 sb => ?_⟩
    have at2 : h2.get? sh.heap.objs.size = some { cls := .type "tuple", data := .seq #[.int n tk, x] } := (sb.2 _ (Nat.ne_of_gt le)).trans new
    have ob : ObjOk X.prog X.w (upd H sh.heap.objs.size (.tup [.int (n : Nat), w])) h2 sh.heap.objs.size (.tup [.int (n : Nat), w]) := ⟨by show 2 ≤ sizeLine; decide, [.int n tk, x], .cons ⟨_, rfl⟩ (.cons ru .nil), ⟨_, at2, rfl, _, rfl⟩⟩
    have I2 : Inv X pins sg (upd H sh.heap.objs.size (.tup [.int (n : Nat), w])) { sh with heap := h2, toks := tk + 1 } :=
      I.turnedNew (ch := [e, j]) (fun b o hb z => (sb.2 b fun y => hb (by simp [y])).trans (kp b o (fun y => hb (by simp [y])) (fun y => hb (by simp [y])) z)) fpk (Nat.le_refl _) ob
    refine ⟨.ref sh.heap.objs.size, _, I2, rfl, ⟨_, w, rfl, I.hok.fresh (Nat.le_refl _), rfl, fun ys hy => by rw [I.tuple_inj hy sq]; exact hw⟩, ⟨⟨x, ?_⟩, st'.1.at fun o z => (sb.2 j (Ne.symm hej)).trans z⟩, fun b hb => ?_⟩
    · have : ((n + 1 : Nat) : Int) = (n : Int) + 1 := by omega
      rw [this]; exact he2
    · have lb : b < sh.heap.objs.size := by
        rcases two b hb with z | z
        · rw [z]; exact le
        · rw [z]; exact lj
      rw [upd_ne (Nat.ne_of_lt lb)]
      exact (fpk b hb).1
  · intro X eP ew eK calm n pins sh sg H E I fpk q go
    subst eP; subst ew; subst eK
    obtain ⟨⟨was, he⟩, hj⟩ := q
    obtain ⟨ws, sq, hw⟩ := go
    obtain ⟨its, rv, p, _⟩ := I.tuple sq
    have p' : sh.heap.IsTuple t its.toArray := p
    have len := rv.length
    obtain ⟨f0, f1, f2, f3, f4, f5⟩ := fpk j (by simp)
    exact wpAny_pyNext_enum_endD (draws_over (P := X.prog) (w := X.w) (B := X.A.in1) (I.ok.hd calm) j t n its.toArray (by simp; omega)) he ⟨rfl, hj, p'⟩ fun h' eb => ⟨rfl, I.turned (t' := sh.toks) (fun b o hb z => eb b o hb z) f0 f1 f3 f4 f5⟩
  · intro A n sh Q E q hQ
    obtain ⟨⟨_, he⟩, _⟩ := q
    exact wpAny_pyIter_enum he hQ
set_option maxHeartbeats 1000000 in
theorem meets_enum1 {v : Value} {ob : Obj} {Hh : Heap → Prop} (B : Begins v ob Hh) :
    Meets (Builtin.«enumerate.__new__» ⟨[.type "enumerate", v], []⟩) (fun _ R sh => Hh sh.heap ∧
      R (.ok (.ret (.ref (sh.heap.push ob).objs.size))) { sh with heap := (sh.heap.push ob).push { cls := .type "enumerate", data := .fields #[.none, .bool false, .ref sh.heap.objs.size, rawInt 0, .none, .none] } }) := by
  refine .of_wp fun P w A R sh h => ?_
  obtain ⟨hp, g, d, tk, os⟩ := sh
  obtain ⟨h1, h⟩ := h
  have isSub := sub_enumerate
  have begin1 : ∀ {A2 : Around} {E : Value → Shared → Prop} {Q : Value → Shared → Prop}, Q (.ref hp.objs.size) ⟨hp.push ob, g, d, tk, os⟩ → wpAny (model P w) A2 (pyIter v) Q E ⟨hp, g, d, tk, os⟩ := fun q => B.iter P w _ _ ⟨hp, g, d, tk, os⟩ _ h1 q
  wp_walk using begin1
  refine wpAny_stack_any fun _ => wpAny_pure ?_
  split
  · rename_i c _ _ _ _ _
    cases (c == Value.type "enumerate") <;> (wp_walk using begin1; exact ⟨_, rfl, h⟩)
  · wp_walk using begin1
    exact ⟨_, rfl, h⟩
section
variable {P : Program} {w : World} {A : Around} {E : Value → Shared → Prop} {sh : Shared}
theorem call_enumT {t : Addr} {its : Array Value} {Q : Value → Shared → Prop} (hT : sh.heap.IsTuple t its)
    (h : ∀ h', IsEnum h' (sh.heap.objs.size + 1) sh.heap.objs.size 0 .none → h'.IsTupleIter sh.heap.objs.size t 0 → (∀ b o, sh.heap.get? b = some o → h'.get? b = some o) → Q (.ref (sh.heap.objs.size + 1)) { sh with heap := h' }) :
    wpAny (model P w) A (call (.type "enumerate") [.ref t]) Q E sh := by
  refine callType_new F.called_enumerate (by decide) (F.typeCall_enumerate_1 _) (F.newCall_enumerate_1 _) (fun x => F.args_object_init_2 x _) F.entry_enumerate_new (meets_enum1 (begins_tuple t its)) ⟨hT, ?_⟩
  have hz : (sh.heap.push { cls := .type "tuple_iterator", data := .fields #[.ref t, .int 0 0] }).objs.size = sh.heap.objs.size + 1 := by rw [Heap.size_push]
  have he := Heap.get?_push_size (sh.heap.push { cls := .type "tuple_iterator", data := .fields #[.ref t, .int 0 0] }) (o := { cls := .type "enumerate", data := .fields #[.none, .bool false, .ref sh.heap.objs.size, rawInt 0, .none, .none] }) rfl
  show _ ∧ _
  rw [hz]
  rw [hz] at he
  exact ⟨⟨_, he, rfl⟩, h _ he ⟨_, Heap.get?_push_of_some _ (Heap.get?_push_size _ rfl), rfl, rfl⟩ fun b o x => Heap.get?_push_of_some _ (Heap.get?_push_of_some _ x)⟩
end
def iEnA (K : PySem.W.Frag) (ta : TA) : TI := fun sg H R => ta sg H fun vs H1 => ∃ a ws, vs = [.ref a] ∧ ((SqL K H1 a ws ∧ R (Ite K a) H1) ∨ (SqT K H1 a ws ∧ R (IteT K a) H1))
theorem pi_enumA {X : Cx} {e : Expr} {ta : TA} {p pos tp : Pos} {els : List Expr} {k2 : Nat} (hg : Gl X "enumerate") (hm : X.mg "enumerate" = none) (ha : PA X [e] ta) (hs : starEach [e] X.env = [(false, eval e X.env)] := by rfl) :
    PI X (.Tuple els k2 tp) (.Call (.Name "enumerate" p) [e] [] pos) (iEnA X.K ta) := by
  refine ⟨fun pins s sg H R I h => ?_⟩
  refine PyProof.Rows.Call_ (ld_blt I hg hm PyProof.Rows.boot_enumerate (PyProof.Rows.callWith_type1 (thn (ha.run pos pins s sg H _ I h) fun us s1 ⟨vs, H1, I1, r1, q1⟩ => ?_) hs rfl))
  obtain ⟨a, ws, rfl, q1⟩ := q1
  have two : ∀ b, b ∈ [s1.heap.objs.size + 1, s1.heap.objs.size] → FpOk X pins H1 b := fun b hb => by
    have hle : s1.heap.objs.size ≤ b := by
      have : b = s1.heap.objs.size + 1 ∨ b = s1.heap.objs.size := by simpa using hb
      omega
    exact I1.fpOk hle (I1.hok.fresh hle)
  cases r1 with
  | cons r rr =>
    cases rr
    cases r
    rcases q1 with ⟨sq, q⟩ | ⟨sq, q⟩
    · obtain ⟨its, rv, p', _⟩ := I1.list sq
      exact call_enumerate_list p'.isList fun h' he hit hsz hk => wpAny_pyIter_enum he ⟨s1.heap.objs.size + 1, _, _, _, H1, rfl, I1.kept (t' := s1.toks) hk, turn_enum a (s1.heap.objs.size + 1) s1.heap.objs.size, ⟨⟨.none, he⟩, hit, Nat.succ_ne_self _⟩, two, q⟩
    · obtain ⟨its, rv, p', _⟩ := I1.tuple sq
      have la : a < s1.heap.objs.size := by obtain ⟨_, z, _⟩ := id p'; exact Heap.lt_size z
      exact call_enumT (show s1.heap.IsTuple a its.toArray from p') fun h' he hit hk => wpAny_pyIter_enum he ⟨s1.heap.objs.size + 1, _, _, _, H1, rfl, I1.kept (t' := s1.toks) hk,
        turn_enumT a (s1.heap.objs.size + 1) s1.heap.objs.size (Nat.ne_of_lt la) (Nat.ne_of_gt (Nat.lt_succ_of_lt la)) (Nat.succ_ne_self _), ⟨⟨.none, he⟩, hit⟩, two, q⟩
/-! ### as data -/
def numU (us : List U) : List U := us.mapIdx fun i u => U.tup [.int (i : Nat), u]
def enumerateN : List U → Option (List U)
  | [.lst us] => some (numU us)
  | [.tup us] => some (numU us)
  | [.scr ns] => some (numU (ns.map U.int))
  | _ => none
def zipU (us ws : List U) : List U := List.zipWith (fun a b => U.tup [a, b]) us ws
def zipN : List U → Option (List U)
  | [.lst us, .lst ws] => some (zipU us ws)
  | [.tup us, .tup ws] => some (zipU us ws)
  | _ => none
def reversedN : List U → Option (List U)
  | [.lst us] => some us.reverse
  | [.tup us] => some us.reverse
  | _ => none
section
variable {K : PySem.W.Frag} {G : Addr → Prop} {io : List Addr} {H : Hp}
theorem newPair {G' : Addr → Prop} {io' : List Addr} {st' : Store} {H' : Hp} {q : Addr} {u w : U} {x y : V} (ok : Ok K G' io' st' H') (hq : H' q = none) (r1 : Rep K (Wf G' io') io' H' u x) (r2 : Rep K (Wf G' io') io' H' w y) :
    Rep K (Wf G' io') io' (upd H' q (.tup [x, y])) (.tup [u, w]) (.ref q) := ok.newT hq (.cons r1 (.cons r2 .nil))
theorem wk_enL {a : Addr} {us : List U} {vs : List V} (h : ∀ (G' : Addr → Prop) (io' : List Addr) (H' : Hp), Mono G io H G' io' H' → SqL K H' a vs) (r : Reps K (Wf G io) io H us vs) : Wk K G (Ite K a) io H (numU us) := by
  have hl : (numU us).length = us.length := by unfold numU; exact List.length_mapIdx
  refine ⟨fun i G' io' st' H' ok m hi => ?_, fun i G' io' st' H' ok m hi => ⟨vs, h _ _ _ m, by rw [← r.length]; omega⟩⟩
  have hi' : i < us.length := by omega
  obtain ⟨v, hv, rv⟩ := r.get (List.getElem?_eq_getElem hi')
  refine ⟨⟨vs, v, h _ _ _ m, hv⟩, fun x H'' y => ?_⟩
  obtain ⟨q, w, rfl, hq, rfl, hw⟩ := y
  have e := (hw vs (h _ _ _ m)).symm.trans hv
  cases e
  refine ⟨same_upd hq, .tup [.int (i : Nat), us[i]], by unfold numU; simp [hi'], newPair ok hq (rInt _) (rv.mono m)⟩
theorem wk_enT {a : Addr} {us : List U} {vs : List V} (h : ∀ (G' : Addr → Prop) (io' : List Addr) (H' : Hp), Mono G io H G' io' H' → SqT K H' a vs) (r : Reps K (Wf G io) io H us vs) : Wk K G (IteT K a) io H (numU us) := by
  have hl : (numU us).length = us.length := by unfold numU; exact List.length_mapIdx
  refine ⟨fun i G' io' st' H' ok m hi => ?_, fun i G' io' st' H' ok m hi => ⟨vs, h _ _ _ m, by rw [← r.length]; omega⟩⟩
  have hi' : i < us.length := by omega
  obtain ⟨v, hv, rv⟩ := r.get (List.getElem?_eq_getElem hi')
  refine ⟨⟨vs, v, h _ _ _ m, hv⟩, fun x H'' y => ?_⟩
  obtain ⟨q, w, rfl, hq, rfl, hw⟩ := y
  have e := (hw vs (h _ _ _ m)).symm.trans hv
  cases e
  refine ⟨same_upd hq, .tup [.int (i : Nat), us[i]], by unfold numU; simp [hi'], newPair ok hq (rInt _) (rv.mono m)⟩
theorem wk_zipL {a b : Addr} {us ws : List U} {vs xs : List V} (h1 : LL K (Wf G io) H a vs) (r1 : Reps K (Wf G io) io H us vs) (h2 : LL K (Wf G io) H b xs) (r2 : Reps K (Wf G io) io H ws xs) : Wk K G (Itz K a b) io H (zipU us ws) := by
  have hl : (zipU us ws).length = min us.length ws.length := by unfold zipU; simp
  refine ⟨fun i G' io' st' H' ok m hi => ?_, fun i G' io' st' H' ok m hi => ⟨vs, xs, (h1.mono m).sq, (h2.mono m).sq, by rw [← r1.length, ← r2.length]; omega⟩⟩
  have i1 : i < us.length := by omega
  have i2 : i < ws.length := by omega
  obtain ⟨v1, hv1, rv1⟩ := r1.get (List.getElem?_eq_getElem i1)
  obtain ⟨v2, hv2, rv2⟩ := r2.get (List.getElem?_eq_getElem i2)
  refine ⟨⟨vs, xs, v1, v2, (h1.mono m).sq, (h2.mono m).sq, hv1, hv2⟩, fun x H'' y => ?_⟩
  obtain ⟨q, w1, w2, rfl, hq, rfl, hw1, hw2⟩ := y
  have e1 := (hw1 vs (h1.mono m).sq).symm.trans hv1
  have e2 := (hw2 xs (h2.mono m).sq).symm.trans hv2
  cases e1; cases e2
  refine ⟨same_upd hq, .tup [us[i], ws[i]], by unfold zipU; rw [List.getElem?_zipWith, List.getElem?_eq_getElem i1, List.getElem?_eq_getElem i2], newPair ok hq (rv1.mono m) (rv2.mono m)⟩
theorem wk_zipT {a b : Addr} {us ws : List U} {vs xs : List V} (h1 : LT K (Wf G io) H a vs) (r1 : Reps K (Wf G io) io H us vs) (h2 : LT K (Wf G io) H b xs) (r2 : Reps K (Wf G io) io H ws xs) : Wk K G (RZ.ItzT K a b) io H (zipU us ws) := by
  have hl : (zipU us ws).length = min us.length ws.length := by unfold zipU; simp
  refine ⟨fun i G' io' st' H' ok m hi => ?_, fun i G' io' st' H' ok m hi => ⟨vs, xs, (h1.mono m).sq, (h2.mono m).sq, by rw [← r1.length, ← r2.length]; omega⟩⟩
  have i1 : i < us.length := by omega
  have i2 : i < ws.length := by omega
  obtain ⟨v1, hv1, rv1⟩ := r1.get (List.getElem?_eq_getElem i1)
  obtain ⟨v2, hv2, rv2⟩ := r2.get (List.getElem?_eq_getElem i2)
  refine ⟨⟨vs, xs, v1, v2, (h1.mono m).sq, (h2.mono m).sq, hv1, hv2⟩, fun x H'' y => ?_⟩
  obtain ⟨q, w1, w2, rfl, hq, rfl, hw1, hw2⟩ := y
  have e1 := (hw1 vs (h1.mono m).sq).symm.trans hv1
  have e2 := (hw2 xs (h2.mono m).sq).symm.trans hv2
  cases e1; cases e2
  refine ⟨same_upd hq, .tup [us[i], ws[i]], by unfold zipU; rw [List.getElem?_zipWith, List.getElem?_eq_getElem i1, List.getElem?_eq_getElem i2], newPair ok hq (rv1.mono m) (rv2.mono m)⟩
theorem wk_revL {a : Addr} {us : List U} {vs : List V} (h : LL K (Wf G io) H a vs) (r : Reps K (Wf G io) io H us vs) : Wk K G (Itv K a vs.length) io H us.reverse := by
  have hl : us.reverse.length = vs.length := by rw [List.length_reverse, r.length]
  refine ⟨fun i G' io' st' H' ok m hi => ?_, fun i G' io' st' H' ok m hi => by show vs.length ≤ i; omega⟩
  have hi' : us.length - 1 - i < us.length := by have := r.length; omega
  obtain ⟨v, hv, rv⟩ := r.get (List.getElem?_eq_getElem hi')
  rw [r.length] at hv
  refine ⟨⟨by omega, vs, v, (h.mono m).sq, hv⟩, fun x H'' y => ?_⟩
  obtain ⟨rfl, y⟩ := y
  have e := (y vs (h.mono m).sq).symm.trans hv
  cases e
  refine ⟨Same.refl _, us[us.length - 1 - i], ?_, rv.mono m⟩
  rw [List.getElem?_reverse (by rw [List.length_reverse] at hi; exact hi), List.getElem?_eq_getElem hi']
theorem wk_revT {a : Addr} {us : List U} {vs : List V} (h : LT K (Wf G io) H a vs) (r : Reps K (Wf G io) io H us vs) : Wk K G (RT.ItvT K a vs.length) io H us.reverse := by
  have hl : us.reverse.length = vs.length := by rw [List.length_reverse, r.length]
  refine ⟨fun i G' io' st' H' ok m hi => ?_, fun i G' io' st' H' ok m hi => by show vs.length ≤ i; omega⟩
  have hi' : us.length - 1 - i < us.length := by have := r.length; omega
  obtain ⟨v, hv, rv⟩ := r.get (List.getElem?_eq_getElem hi')
  rw [r.length] at hv
  refine ⟨⟨by omega, vs, v, (h.mono m).sq, hv⟩, fun x H'' y => ?_⟩
  obtain ⟨rfl, y⟩ := y
  have e := (y vs (h.mono m).sq).symm.trans hv
  cases e
  refine ⟨Same.refl _, us[us.length - 1 - i], ?_, rv.mono m⟩
  rw [List.getElem?_reverse (by rw [List.length_reverse] at hi; exact hi), List.getElem?_eq_getElem hi']
end
section
variable {X : Cx} {xs : XS} {wx : WX} {pos : Pos} {tg : Expr}
theorem i_enumerate {e : Expr} {f : DA} {p tp : Pos} {els : List Expr} {k2 : Nat} (hg : Gl X "enumerate") (hm : X.mg "enumerate" = none) (ha : PA X [e] (tDA X.K xs wx f)) (hs : starEach [e] X.env = [(false, eval e X.env)] := by rfl) :
    PI X (.Tuple els k2 tp) (.Call (.Name "enumerate" p) [e] [] pos) (tI X.K xs wx (itA enumerateN f)) := pi_imp (pi_enumA hg hm ha hs) fun sg H R q => by
  obtain ⟨G, io, st, env, ok, er, w⟩ := q
  refine ⟨G, io, st, env, ok, er, w.bind.impR fun st1 io1 H1 us ok1 e1 w1 vs rvs => ?_⟩
  obtain ⟨ws, hu, w2⟩ := w1.pure
  unfold enumerateN at hu
  split at hu
  · cases hu
    obtain ⟨v, rfl, rv⟩ := rvs.one
    obtain ⟨a, ys, rfl, l, r'⟩ := rv.lst'
    exact ⟨a, ys, rfl, .inl ⟨l.sq, w2.here ok1 _ (wk_enL (fun _ _ _ m => (l.mono m).sq) r')⟩⟩
  · cases hu
    obtain ⟨v, rfl, rv⟩ := rvs.one
    obtain ⟨a, ys, rfl, l, r'⟩ := rv.tup'
    exact ⟨a, ys, rfl, .inr ⟨l.sq, w2.here ok1 _ (wk_enT (fun _ _ _ m => (l.mono m).sq) r')⟩⟩
  · cases hu
    obtain ⟨v, rfl, rv⟩ := rvs.one
    obtain ⟨a, rfl, l⟩ := rv.scr'
    exact ⟨a, _, rfl, .inl ⟨l.sq, w2.here ok1 _ (wk_enL (fun _ _ _ m => (l.mono m).sq) (Reps.ints _))⟩⟩
  · cases hu
theorem i_zip {e e2 : Expr} {f : DA} {p tp : Pos} {els : List Expr} {k2 : Nat} (hg : Gl X "zip") (hm : X.mg "zip" = none) (ha : PA X [e, e2] (tDA X.K xs wx f)) (hs : starEach [e, e2] X.env = (false, eval e X.env) :: starEach [e2] X.env := by rfl) (hpl : (backTo pos (starEach [e2] X.env)).any (·.1) = false := by rfl) :
    PI X (.Tuple els k2 tp) (.Call (.Name "zip" p) [e, e2] [] pos) (tI X.K xs wx (itA zipN f)) := pi_imp (RZ.pi_zipA hg hm ha hs hpl) fun sg H R q => by
  obtain ⟨G, io, st, env, ok, er, w⟩ := q
  refine ⟨G, io, st, env, ok, er, w.bind.impR fun st1 io1 H1 us ok1 e1 w1 vs rvs => ?_⟩
  obtain ⟨ws, hu, w2⟩ := w1.pure
  unfold zipN at hu
  split at hu
  · cases hu
    obtain ⟨v, x, rfl, rv, rx⟩ := rvs.two
    obtain ⟨a, ys, rfl, l, r'⟩ := rv.lst'
    obtain ⟨b, zs, rfl, l2, r2⟩ := rx.lst'
    exact ⟨a, b, ys, zs, rfl, .inl ⟨l.sq, l2.sq, w2.here ok1 _ (wk_zipL l r' l2 r2)⟩⟩
  · cases hu
    obtain ⟨v, x, rfl, rv, rx⟩ := rvs.two
    obtain ⟨a, ys, rfl, l, r'⟩ := rv.tup'
    obtain ⟨b, zs, rfl, l2, r2⟩ := rx.tup'
    exact ⟨a, b, ys, zs, rfl, .inr ⟨l.sq, l2.sq, w2.here ok1 _ (wk_zipT l r' l2 r2)⟩⟩
  · cases hu
def itE (g : U → Option (List U)) (f : DE) : DL := fun env st => (f env st).bind fun u st1 => Rs.of (g u) st1
def rev1 : U → Option (List U)
  | .lst us => some us.reverse
  | .tup us => some us.reverse
  | _ => none
theorem i_reversed {e : Expr} {f : DE} {p : Pos} (hg : Gl X "reversed") (hm : X.mg "reversed" = none) (he : PE X e (tD X.K xs wx f)) (hs : starEach [e] X.env = (false, eval e X.env) :: starEach [] X.env := by rfl) :
    PI X tg (.Call (.Name "reversed" p) [e] [] pos) (tI X.K xs wx (itE rev1 f)) := pi_imp (RT.pi_revA hg hm he hs) fun sg H R q => by
  obtain ⟨G, io, st, env, ok, er, w⟩ := q
  refine ⟨G, io, st, env, ok, er, w.bind.impR fun st1 io1 H1 u ok1 e1 w1 v rv => ?_⟩
  obtain ⟨ws, hu, w2⟩ := w1.pure
  unfold rev1 at hu
  split at hu
  · cases hu
    obtain ⟨a, ys, rfl, l, r'⟩ := rv.lst'
    exact ⟨a, ys, rfl, .inl ⟨l.sq, w2.here ok1 _ (wk_revL l r')⟩⟩
  · cases hu
    obtain ⟨a, ys, rfl, l, r'⟩ := rv.tup'
    exact ⟨a, ys, rfl, .inr ⟨l.sq, w2.here ok1 _ (wk_revT l r')⟩⟩
  · cases hu
end
end D
namespace D
open PySem L2
/-! ### t[::-1] -/
section
variable {P : Program} {w : World} {A : Around} {E : Value → Shared → Prop} {sh : Shared}
theorem applied_back {sl : Addr} {tk : Tok} {n : Nat} {Q : Int × Int × Nat → Shared → Prop} (hs : sh.heap.IsSliceOf sl .none .none (.int (-1) tk)) (h : Q ((n : Int) - 1, -1, n) sh) :
    wpAny (model P w) A (Builtin.Slice.sliceApplied (.ref sl) (pure (n : Int))) Q E sh := by
  obtain ⟨o, ho, _, hd⟩ := id hs
  unfold Builtin.Slice.sliceApplied Builtin.Slice.sliceFields
  refine wpAny_bind (wpAny_bind (wpAny_field ho hd (x := .none) rfl (wpAny_bind (wpAny_field ho hd (x := .none) rfl (wpAny_bind (wpAny_field ho hd (x := .int (-1) tk) rfl (wpAny_pure ?_)))))))
  refine wpAny_bind (PyProof.Rows.slicePart_int ?_)
  show wpAny _ _ (if (((-1 : Int)) == 0) = true then _ else _) _ _ sh
  rw [if_neg (by decide)]
  refine wpAny_bind (PyProof.Rows.slicePart_none (wpAny_bind (PyProof.Rows.slicePart_none (wpAny_bind (wpAny_pure ?_)))))
  have e2 : Builtin.Slice.slicePlaces ((n : Int) - 1) (-1) (-1) = n := by
    unfold Builtin.Slice.slicePlaces
    rw [if_neg (by decide)]
    by_cases hn : (n : Int) - 1 > -1
    · rw [if_pos hn, show (-(-1) : Int) = 1 by decide, Int.ediv_one]; omega
    · rw [if_neg hn]; omega
  show wpAny _ _ (pure ((n : Int) - 1, (-1 : Int), Builtin.Slice.slicePlaces ((n : Int) - 1) (-1) (-1))) _ _ sh
  rw [e2]
  exact wpAny_pure h
theorem pick_back (its : Array Value) : ((List.range its.size).filterMap fun (k : Nat) => its[((its.size : Int) - 1 + (k : Int) * -1).toNat]?).toArray = its.toList.reverse.toArray := by
  congr 1
  have e : (List.range its.size).filterMap (fun (k : Nat) => its[((its.size : Int) - 1 + (k : Int) * -1).toNat]?) = ((List.range its.size).map fun k => its.size - 1 - k).filterMap (its[·]?) := by
    rw [List.filterMap_map]
    have gen : ∀ l : List Nat, (∀ k ∈ l, k < its.size) → l.filterMap (fun (k : Nat) => its[((its.size : Int) - 1 + (k : Int) * -1).toNat]?) = l.filterMap ((fun x => its[x]?) ∘ fun k => its.size - 1 - k) := by
      intro l
      induction l with
      | nil => intro _; rfl
      | cons k l ih =>
        intro hk
        have q : its[((its.size : Int) - 1 + (k : Int) * -1).toNat]? = its[its.size - 1 - k]? := by
          have := hk k List.mem_cons_self
          congr 1
          omega
        rw [List.filterMap_cons, List.filterMap_cons, ih fun j hj => hk j (List.mem_cons_of_mem _ hj)]
        rw [q]
        rfl
    exact gen _ fun k hk => List.mem_range.mp hk
  rw [e, PySem.W.krv_range, List.filterMap_reverse, PySem.W.krv_all]
theorem getItem_back {t sl : Addr} {its : Array Value} {tk : Tok} {Q : Value → Shared → Prop} (ht : PyProof.Rows.IsTup sh.heap t its) (hs : sh.heap.IsSliceOf sl .none .none (.int (-1) tk))
    (h : Q (.ref sh.heap.objs.size) { sh with heap := sh.heap.push { cls := .type "tuple", data := .seq its.toList.reverse.toArray } }) (hz : its.size ≤ sizeLine) : wpAny (model P w) A (getItem (.ref t) (.ref sl)) Q E sh := by
  obtain ⟨o, ho, hc, hd⟩ := id hs
  have isSl : sh.TypeIs (.ref sl) "slice" := ⟨o, ho, hc⟩
  have hfit : sizeOk (.seq its.toList.reverse.toArray) := by
    show its.toList.reverse.toArray.size ≤ sizeLine
    rw [List.size_toArray, List.length_reverse, Array.length_toList]; exact hz
  unfold getItem
  try with_reducible refine wpAny_holding ?_
  first | refine wpAny_bind (wpAny_pure ?_) | skip
  refine wpAny_bind (wpAny_sequenceKey ht.typeIs (by decide) ?_)
  refine wpAny_bind (wpAny_callSpecial?_slot (name := Str.ofString "__getitem__") ht.typeIs PyProof.Rows.slot_tuple_getitem (wpAny_call_entry PyProof.Rows.slot_tuple_getitem ht.typeIs PyProof.Rows.entry_tuple_getitem ?_ (PyProof.Rows.args_tuple_getitem _ _)))
  show wpAny _ _ (Builtin.Tuple.tupleItemsOf (.ref t) >>= _) _ _ sh
  refine wpAny_bind (PyProof.Rows.tupleItemsOf_ ht ?_)
  refine wpAny_bind (wpAny_typeOf isSl ?_)
  rw [if_pos (by decide)]
  refine wpAny_bind (applied_back hs ?_)
  have no : ¬ (((its.size : Int) - 1 == 0 && (-1 : Int) == 1 && its.size == its.size) = true) := by
    intro q
    rw [Bool.and_eq_true, Bool.and_eq_true] at q
    exact absurd q.1.2 (by decide)
  show wpAny _ _ (if ((its.size : Int) - 1 == 0 && (-1 : Int) == 1 && its.size == its.size) = true then _ else _) _ _ sh
  rw [if_neg no, pick_back]
  first
    | exact wpAny_bind (m := Builtin.Tuple.tupleExact _) (wpAny_newObj_type (wpAny_pure ⟨_, rfl, wpAny_pure h⟩) hfit)
    | exact wpAny_bind (wpAny_bind (m := Builtin.Tuple.tupleExact _) (wpAny_newObj_type (wpAny_pure (wpAny_pure ⟨_, rfl, wpAny_pure h⟩)) hfit))
    | exact wpAny_bind (wpAny_bind (m := Builtin.Tuple.tupleExact _) (wpAny_newObj_type (wpAny_pure ⟨_, rfl, wpAny_pure h⟩) hfit))
end
def tBack (K : PySem.W.Frag) (te : TE) : TE := fun sg H Q => te sg H fun x H1 => ∃ a ws, x = .ref a ∧ ((SqL K H1 a ws ∧ ∀ p, H1 p = none → Q (.ref p) (upd H1 p (.lst ws.reverse))) ∨ (SqT K H1 a ws ∧ ∀ p, H1 p = none → Q (.ref p) (upd H1 p (.tup ws.reverse))))
section
variable {X : Cx} {xs : XS} {wx : WX} {pos : Pos}
theorem pe_back {e : Expr} {te : TE} {k : Nat} {p1 p2 p3 : Pos} (he : PE X e te) : PE X (.Subscript e (.Slice none none (some (.UnaryOp .USub (.Constant (.int 1) k p1) p2)) p3) pos) (tBack X.K te) := by
  refine ⟨fun pins s sg H Q I h => ?_⟩
  refine PyProof.Rows.Subscript_ (thn (he.run pins s sg H _ I h) fun v s1 ⟨x, H1, I1, r1, q1⟩ => ?_)
  obtain ⟨a, ws, rfl, q⟩ := q1
  cases r1
  have step : PO X (some (.UnaryOp .USub (.Constant (.int 1) k p1) p2)) (tPart (tUn (rU fun i => .int (-i)) (tC (.int 1)))) := po_some (pe_un un_neg pe_int)
  refine wpAny_Slice (thn (po_none.run pins s1 sg H1 (fun o H2 => o = none ∧ H2 = H1) I1 ⟨rfl, rfl⟩) fun vl s2 ⟨l, H2, I2, pl, el, e2⟩ => ?_)
  subst el e2
  refine thn (po_none.run pins s2 sg H2 (fun o H3 => o = none ∧ H3 = H2) I2 ⟨rfl, rfl⟩) fun vu s3 ⟨u, H3, I3, pu, eu, e3⟩ => ?_
  subst eu e3
  refine thn (step.run pins s3 sg H3 (fun o H4 => o = some (-1) ∧ H4 = H3) I3 ⟨1, rfl, -1, rfl, rfl, rfl⟩) fun vs s4 ⟨o, H4, I4, ps, eo, e4⟩ => ?_
  subst eo e4
  have I5 : Inv X pins sg H4 { s4 with heap := s4.heap.push { cls := .type "slice", data := .fields #[vl, vu, vs] } } := I4.kept (t' := s4.toks) fun b ob z => Heap.get?_push_of_some _ z
  show wpAny (model X.prog X.w) X.A (PyProof.Rows.subscriptTail e (.Slice none none (some (.UnaryOp .USub (.Constant (.int 1) k p1) p2)) p3) (.ref a) (.ref s4.heap.objs.size)) (EP X pins sg Q) X.xe { s4 with heap := s4.heap.push { cls := .type "slice", data := .fields #[vl, vu, vs] } }
  rcases q with ⟨sq, q⟩ | ⟨sq, q⟩
  · obtain ⟨its, r, ht, hz⟩ := I5.list sq
    have hlen := r.length
    refine PyProof.Rows.tail_any (ops := [.ref a, .ref s4.heap.objs.size]) ht.isList.typeIs (PySem.slot_list_getitem.lookup) ?_ (by with_unfolding_all rfl)
    refine wpAny_getItem_list_slice ht.isList (Heap.IsSliceOf.new _ vl vu vs) pl pu ps (by decide) ?_ (by rw [List.size_toArray]; omega)
    rw [PySem.W.krv_pick]
    exact ⟨.ref _, _, I5.laid (t' := s4.toks) (o := .lst ws.reverse) (fun b ob z => Heap.get?_push_of_some _ z) (Nat.le_refl _) ⟨by rw [List.length_reverse]; exact hz, _, 0, r.reverse, Heap.get?_push_size _ rfl⟩, rfl, q _ (I5.hok.fresh (Nat.le_refl _))⟩
  · obtain ⟨its, r, ht, hz⟩ := I5.tuple sq
    have hlen := r.length
    refine PyProof.Rows.tail_any (ops := [.ref a, .ref s4.heap.objs.size]) ht.typeIs (PyProof.Rows.slot_tuple_getitem.lookup) ?_ (by with_unfolding_all rfl)
    cases pl
    cases pu
    cases ps
    refine getItem_back ht (Heap.IsSliceOf.new _ _ _ _) ?_ (by rw [List.size_toArray]; omega)
    exact ⟨.ref _, _, I5.laid (t' := s4.toks) (o := .tup ws.reverse) (fun b ob z => Heap.get?_push_of_some _ z) (Nat.le_refl _) ⟨by rw [List.length_reverse]; exact hz, _, r.reverse, PyProof.Rows.IsTup.new _ _⟩, rfl, q _ (I5.hok.fresh (Nat.le_refl _))⟩
def ap1 (g : U → Option U) (f : DE) : DE := fun env st => (f env st).bind fun u st1 => Rs.of (g u) st1
def back1 : U → Option U
  | .lst us => some (.lst us.reverse)
  | .tup us => some (.tup us.reverse)
  | _ => none
theorem Reps.reverse {K : PySem.W.Frag} {W : Addr → Prop} {io : List Addr} {H : Hp} : ∀ {us : List U} {vs : List V}, Reps K W io H us vs → Reps K W io H us.reverse vs.reverse
  | [], _, h => by rw [h.isNil]; exact .nil
  | u :: us, _, h => by
    obtain ⟨v, r, rfl, q, t⟩ := h.uncons
    rw [List.reverse_cons, List.reverse_cons]
    exact t.reverse.append (.cons q .nil)
theorem d_back {e : Expr} {f : DE} {k : Nat} {p1 p2 p3 : Pos} (he : PE X e (tD X.K xs wx f)) : PE X (.Subscript e (.Slice none none (some (.UnaryOp .USub (.Constant (.int 1) k p1) p2)) p3) pos) (tD X.K xs wx (ap1 back1 f)) :=
  pe_imp (pe_back he) fun sg H Q h => by
    obtain ⟨G, io, st, env, ok, er, w⟩ := h
    refine ⟨G, io, st, env, ok, er, w.bind.impR fun st1 io1 H1 u ok1 e1 w1 v rv => ?_⟩
    obtain ⟨r, hr, w2⟩ := w1.pure
    unfold back1 at hr
    split at hr
    · cases hr
      obtain ⟨a, ys, rfl, l, r'⟩ := rv.lst'
      exact ⟨a, ys, rfl, .inl ⟨l.sq, fun p hp => w2.hereS ok1 (same_upd hp) _ (ok1.newL hp r'.reverse)⟩⟩
    · cases hr
      obtain ⟨a, ys, rfl, l, r'⟩ := rv.tup'
      exact ⟨a, ys, rfl, .inr ⟨l.sq, fun p hp => w2.hereS ok1 (same_upd hp) _ (ok1.newT hp r'.reverse)⟩⟩
    · cases hr
end
@[simp] theorem ap1_ap (g : U → Option U) (f : DE) (env : Env) (st : Store) : ap1 g f env st = (f env st).bind fun u st1 => Rs.of (g u) st1 := (rfl)
@[simp] theorem itE_ap (g : U → Option (List U)) (f : DE) (env : Env) (st : Store) : itE g f env st = (f env st).bind fun u st1 => Rs.of (g u) st1 := (rfl)
end D
namespace D
open PySem L2
/-- a loop that looks at each thing and ends with r at the first that fails -/
theorem for_check {t : Tg} {b : DS} {st : Store} {r : U} (I : Nat → Env → Prop) (c : Nat → Bool) : ∀ (us : List U) (n : Nat) (env : Env), I n env →
    (∀ k u env, us[k]? = some u → I (n + k) env → (∀ j, j < k → c (n + j) = true) → ∃ l, t u = some l ∧ ((c (n + k) = true ∧ ∃ env', (b (setE env l) st = .nx env' st ∨ b (setE env l) st = .ct env' st) ∧ I (n + k + 1) env') ∨ (c (n + k) = false ∧ b (setE env l) st = .rt r st))) →
    ((∀ k, k < us.length → c (n + k) = true) ∧ ∃ env', forL t b us env st = .nx env' st ∧ I (n + us.length) env') ∨ ((∃ k, k < us.length ∧ c (n + k) = false) ∧ forL t b us env st = .rt r st)
  | [], n, env, h, _ => .inl ⟨fun k hk => absurd hk (Nat.not_lt_zero _), env, rfl, h⟩
  | u :: us, n, env, h, step => by
    obtain ⟨l, h1, h2⟩ := step 0 u env rfl h (fun j hj => absurd hj (Nat.not_lt_zero _))
    rcases h2 with ⟨hc, env1, h2, h3⟩ | ⟨hc, h2⟩
    · have ih := for_check I c us (n + 1) env1 h3 fun k v e hk hi hj => by
        have q := step (k + 1) v e (by simpa using hk) (by rw [show n + (k + 1) = n + 1 + k by omega]; exact hi) (fun j hj' => by
          cases j with
          | zero => exact hc
          | succ j => rw [show n + (j + 1) = n + 1 + j by omega]; exact hj j (by omega))
        rw [show n + (k + 1) = n + 1 + k by omega] at q
        exact q
      have e : forL t b (u :: us) env st = forL t b us env1 st := by
        rw [for_cons, h1]
        rcases h2 with h2 | h2 <;> simp only [h2]
      rcases ih with ⟨i1, env2, i2, i3⟩ | ⟨⟨k, i1, i2⟩, i3⟩
      · refine .inl ⟨fun k hk => ?_, env2, by rw [e]; exact i2, by rw [List.length_cons, show n + (us.length + 1) = n + 1 + us.length by omega]; exact i3⟩
        cases k with
        | zero => exact hc
        | succ k => rw [show n + (k + 1) = n + 1 + k by omega]; exact i1 k (by simpa using hk)
      · exact .inr ⟨⟨k + 1, by simpa using i1, by rw [show n + (k + 1) = n + 1 + k by omega]; exact i2⟩, by rw [e]; exact i3⟩
    · refine .inr ⟨⟨0, Nat.zero_lt_succ _, hc⟩, ?_⟩
      rw [for_cons, h1]
      simp only [h2]
theorem for_check0 {t : Tg} {b : DS} {st : Store} {r : U} (I : Nat → Env → Prop) (c : Nat → Bool) (us : List U) (env : Env) (h0 : I 0 env)
    (step : ∀ k u env, us[k]? = some u → I k env → (∀ j, j < k → c j = true) → ∃ l, t u = some l ∧ ((c k = true ∧ ∃ env', (b (setE env l) st = .nx env' st ∨ b (setE env l) st = .ct env' st) ∧ I (k + 1) env') ∨ (c k = false ∧ b (setE env l) st = .rt r st))) :
    ((List.range us.length).all c = true ∧ ∃ env', forL t b us env st = .nx env' st ∧ I us.length env') ∨ ((List.range us.length).all c = false ∧ forL t b us env st = .rt r st) := by
  have q := for_check (r := r) I c us 0 env h0 (fun k u e hk hi hj => by
    have := step k u e hk (by simpa using hi) (fun j hj' => by simpa using hj j hj')
    simpa using this)
  rcases q with ⟨h1, h2⟩ | ⟨⟨k, h1, h2⟩, h3⟩
  · refine .inl ⟨?_, by simpa using h2⟩
    rw [List.all_eq_true]
    intro k hk
    simpa using h1 k (List.mem_range.mp hk)
  · refine .inr ⟨?_, h3⟩
    rw [List.all_eq_false]
    exact ⟨k, List.mem_range.mpr h1, by simpa using h2⟩
@[simp] theorem tgT2_ap (i j : Nat) (a b : U) : tgT [i, j] (.tup [a, b]) = some [(i, a), (j, b)] := by
  unfold tgT
  rfl
@[simp] theorem tgT3_ap (i j k : Nat) (a b c : U) : tgT [i, j, k] (.tup [a, b, c]) = some [(i, a), (j, b), (k, c)] := by
  unfold tgT
  rfl
end D
namespace C
open PySem L2 D
/-! ### words -/
def letters : List Nat := (Str.ofString "abcdefghijklmnopqrstuvwxyz").cps.toList
def isWordS (x : Str) : Bool := decide (1 ≤ x.length) && decide (x.length ≤ 8) && x.cps.toList.all (fun c => decide (c ∈ letters))
def valid (x : Str) : Bool := x.cps.all (· < 0x110000)
/-- a thing of which the type is known, a text no too long one -/
def tame : U → Bool
  | .str x => decide (x.length ≤ 16777216) && valid x
  | u => (tyU u).isSome
def wordU : U → Bool
  | .str x => isWordS x
  | _ => false
theorem wordU_str {u : U} (h : wordU u = true) : ∃ x, u = .str x ∧ isWordS x = true := by
  cases u <;> first | exact ⟨_, rfl, h⟩ | cases h
theorem tame_ty {u : U} (h : tame u = true) : ∃ t, tyU u = some t := by
  cases u <;> first | exact ⟨_, rfl⟩ | cases h
def b_is_word : DS := (sSeq (sIf (orT (notT (tst (appN isiN (acons (var 0) (acons (cst (.ty "str")) anil))))) (notT (tst (chain le2 le2 (cst (.int 1)) (appN lenN (acons (var 0) anil)) (cst (.int 8)))))) (sSeq (sRet (cst (.bl false))) sNil) sNil) (sSeq (sRet (appN allN (acons (newL (compD (itemsD (var 0)) [1] (tgN 1) yesT (bin in2 (var 1) (cst (.str (Str.ofString "abcdefghijklmnopqrstuvwxyz")))))) anil))) sNil))
def f_is_word : List U → Store → Rs U := runB 2 1 b_is_word
theorem is_word_str (x : Str) (hx : x.length ≤ 16777216) (st : Store) : f_is_word [.str x] st = .ok (.bl (isWordS x)) st := by
  unfold f_is_word b_is_word isWordS
  by_cases h1 : 1 ≤ x.length
  · by_cases h8 : x.length ≤ 8
    · have i1 : (1 : Int) ≤ x.length := by omega
      have i8 : (x.length : Int) ≤ 8 := by omega
      have hc : compL (tgN 1) yesT (D.bin in2 (var 1) (cst (U.str (Str.ofString "abcdefghijklmnopqrstuvwxyz")))) (x.cps.toList.map fun c => U.str ⟨#[c]⟩) [.val (.str x), .un] st = .ok (x.cps.toList.map fun c => U.bl (decide (c ∈ letters))) st :=
        comp_allM _ fun c _ => ⟨_, rfl, by simp [in2, letters]⟩
      have hb : boolsU (x.cps.toList.map fun c => U.bl (decide (c ∈ letters))) = some (x.cps.toList.map fun c => decide (c ∈ letters)) := by
        have := bools_map (x.cps.toList.map fun c => decide (c ∈ letters))
        rw [List.map_map] at this
        exact this
      have hs : x.cps.size ≤ 16777216 := hx
      simp [isiN, tyU, tyNames, isB, lenN, hx, le2, i1, i8, h1, h8, items, wipeE, hs, hc, allN, hb]
    · have i1 : (1 : Int) ≤ x.length := by omega
      have i8 : ¬ (x.length : Int) ≤ 8 := by omega
      simp [isiN, tyU, tyNames, isB, lenN, hx, le2, i1, i8, h1, h8]
  · have i1 : ¬ (1 : Int) ≤ x.length := by omega
    simp [isiN, tyU, tyNames, isB, lenN, hx, le2, i1, h1]
theorem is_word_no {u : U} {t : String} (ht : tyU u = some t) (hs : t ≠ "str") (st : Store) : f_is_word [u] st = .ok (.bl false) st := by
  unfold f_is_word b_is_word
  simp [isiN, ht, tyNames, isB, hs]
theorem tame_str {x : Str} (h : tame (.str x) = true) : x.length ≤ 16777216 ∧ valid x = true := by
  unfold tame at h
  rw [Bool.and_eq_true, decide_eq_true_eq] at h
  exact h
theorem is_word_any {u : U} (h : tame u = true) (st : Store) : f_is_word [u] st = .ok (.bl (wordU u)) st := by
  cases u with
  | str x => exact is_word_str x (tame_str h).1 st
  | non => exact is_word_no rfl (by decide) st
  | bl b => exact is_word_no rfl (by decide) st
  | int i => exact is_word_no rfl (by decide) st
  | tup us => exact is_word_no rfl (by decide) st
  | lst us => exact is_word_no rfl (by decide) st
  | dct ks us => exact is_word_no rfl (by decide) st
  | scr us => exact is_word_no rfl (by decide) st
  | ref n => cases h
  | ty n => cases h
/-- the signs of a text that are no letters -/
def oddL (x : Str) : List U := (x.cps.toList.filter fun c => !decide (c ∈ letters)).map fun c => U.str ⟨#[c]⟩
theorem odd_comp (x : Str) (i : Nat) (env : D.Env) (hi : i < env.length) (st : Store) (v : DE) (hv : ∀ c : Nat, v (env.set i (.val (.str ⟨#[c]⟩))) st = .ok (.str ⟨#[c]⟩) st) : compL (tgN i) (tst (D.bin nin2 v (cst (U.str (Str.ofString "abcdefghijklmnopqrstuvwxyz"))))) v (x.cps.toList.map fun c => U.str ⟨#[c]⟩) env st = .ok (oddL x) st :=
  comp_filterM _ fun c _ => ⟨_, rfl, by simp [hv, nin2, letters], fun _ => by simp [hv]⟩
theorem odd_okU (x : Str) (hv : valid x = true) : okU 1 (.lst (oddL x)) = true := by
  unfold okU
  rw [List.all_eq_true]
  intro u hu
  obtain ⟨c, hc, rfl⟩ := List.mem_map.mp hu
  have hc := (List.mem_filter.mp hc).1
  unfold okU
  unfold valid at hv
  rw [Array.all_eq_true] at hv
  obtain ⟨i, hi, e⟩ := List.getElem_of_mem hc
  have := hv i (by simpa using hi)
  rw [Array.getElem_toList] at e
  rw [e] at this
  simpa using this
theorem odd_empty (x : Str) : (oddL x).isEmpty = x.cps.toList.all (fun c => decide (c ∈ letters)) := by
  unfold oddL
  rw [List.isEmpty_map]
  cases q : x.cps.toList.all (fun c => decide (c ∈ letters)) with
  | true =>
    rw [List.isEmpty_iff, List.filter_eq_nil_iff]
    intro c hc
    rw [List.all_eq_true] at q
    simpa using q c hc
  | false =>
    rw [List.isEmpty_eq_false_iff, Ne, List.filter_eq_nil_iff]
    intro z
    rw [← Bool.not_eq_true, List.all_eq_true] at q
    exact q fun c hc => by simpa using z c hc
theorem odd_size (x : Str) (h : x.length ≤ 16777216) : (oddL x).length ≤ 16777216 := by
  unfold oddL
  rw [List.length_map]
  exact Nat.le_trans (List.length_filter_le _ _) (by simpa [Str.length] using h)
/-! ### leaves -/
def ltU : U → U → Bool
  | .str x, .str y => ltC x y
  | _, _ => false
def leafAt (us : List U) (k : Nat) : Bool := wordU (us.getD k .non) && (decide (k = 0) || ltU (us.getD (k - 1) .non) (us.getD k .non))
def areL : U → Bool
  | .tup us => decide (us.length ≤ 8) && (List.range us.length).all (leafAt us)
  | _ => false
def b_are_leaves : DS := (sSeq (sIf (orT (notT (tst (appN isiN (acons (var 0) (acons (cst (.ty "tuple")) anil))))) (tst (bin gt2 (appN lenN (acons (var 0) anil)) (cst (.int 8))))) (sSeq (sRet (cst (.bl false))) sNil) sNil) (sSeq (sFor (itA enumerateN (acons (var 0) anil)) (tgT [1, 2]) (sSeq (sIf (orT (notT (tst (appU f_is_word (acons (var 2) anil)))) (andT (tst (bin gt2 (var 1) (cst (.int 0)))) (tst (bin le2 (var 2) (bin ix2 (var 0) (bin sub2 (var 1) (cst (.int 1)))))))) (sSeq (sRet (cst (.bl false))) sNil) sNil) sNil)) (sSeq (sRet (cst (.bl true))) sNil)))
def b_leavesTurn : DS := (sSeq (sIf (orT (notT (tst (appU f_is_word (acons (var 2) anil)))) (andT (tst (bin gt2 (var 1) (cst (.int 0)))) (tst (bin le2 (var 2) (bin ix2 (var 0) (bin sub2 (var 1) (cst (.int 1)))))))) (sSeq (sRet (cst (.bl false))) sNil) sNil) sNil)
def f_are_leaves : List U → Store → Rs U := runB 3 1 b_are_leaves
theorem getD_of {us : List U} {k : Nat} {u : U} (h : us[k]? = some u) : us.getD k .non = u := by
  rw [List.getD_eq_getElem?_getD, h]; rfl
theorem leaf_str {us : List U} {k : Nat} (h : leafAt us k = true) : ∃ x, us.getD k .non = .str x := by
  unfold leafAt at h
  rw [Bool.and_eq_true] at h
  obtain ⟨x, e, _⟩ := wordU_str h.1
  exact ⟨x, e⟩
theorem ix_tup {us : List U} {k : Nat} {u : U} (h : us[k]? = some u) : ix2 (.tup us) (.int (k : Int)) = some u := atI_at h
set_option maxHeartbeats 2000000 in
theorem leaves_turn (us : List U) (k : Nat) (u : U) (s1 s2 : Sl) (st : Store) (hk : us[k]? = some u) (ht : tame u = true) (hj : ∀ j, j < k → leafAt us j = true) :
    b_leavesTurn [.val (.tup us), .val (.int (k : Int)), .val u] st = if leafAt us k = true then .nx [.val (.tup us), .val (.int (k : Int)), .val u] st else .rt (.bl false) st := by
  have e1 := is_word_any ht st
  have ed := getD_of hk
  unfold b_leavesTurn leafAt
  rw [ed]
  cases hw : wordU u with
  | false => simp [e1, hw]
  | true =>
    obtain ⟨x, rfl, _⟩ := wordU_str hw
    cases k with
    | zero => simp [e1, hw, gt2]
    | succ k =>
      obtain ⟨y, ey⟩ := leaf_str (hj k (Nat.lt_succ_self _))
      have hl : k < us.length := by have := (List.getElem?_eq_some_iff.mp hk).1; omega
      have ek : us[k]? = some (.str y) := by
        rw [List.getElem?_eq_getElem hl]
        rw [List.getD_eq_getElem?_getD, List.getElem?_eq_getElem hl] at ey
        exact congrArg some ey
      have ix := ix_tup ek
      have g1 : (0 : Int) < (k : Int) + 1 := by omega
      have g2 : (k : Int) + 1 - 1 = k := by omega
      cases hlt : ltC y x with
      | true => simp [e1, hw, gt2, sub2, g1, g2, ix, le2, ltU, ey, hlt, -List.getD_eq_getElem?_getD]
      | false => simp [e1, hw, gt2, sub2, g1, g2, ix, le2, ltU, ey, hlt, -List.getD_eq_getElem?_getD]
theorem num_get (us : List U) (k : Nat) (u : U) (h : (numU us)[k]? = some u) : ∃ v, us[k]? = some v ∧ u = .tup [.int (k : Int), v] := by
  unfold numU at h
  rw [List.getElem?_mapIdx, Option.map_eq_some_iff] at h
  obtain ⟨v, h1, h2⟩ := h
  exact ⟨v, h1, h2.symm⟩
theorem num_len (us : List U) : (numU us).length = us.length := by unfold numU; exact List.length_mapIdx
theorem are_leaves_tup (us : List U) (h : us.all tame = true) (st : Store) : f_are_leaves [.tup us] st = .ok (.bl (areL (.tup us))) st := by
  have e2 : b_are_leaves = (sSeq (sIf (orT (notT (tst (appN isiN (acons (var 0) (acons (cst (.ty "tuple")) anil))))) (tst (bin gt2 (appN lenN (acons (var 0) anil)) (cst (.int 8))))) (sSeq (sRet (cst (.bl false))) sNil) sNil) (sSeq (sFor (itA enumerateN (acons (var 0) anil)) (tgT [1, 2]) b_leavesTurn) (sSeq (sRet (cst (.bl true))) sNil))) := rfl
  unfold f_are_leaves areL
  rw [e2]
  by_cases h8 : us.length ≤ 8
  · have i8 : ¬ (8 : Int) < us.length := by omega
    have q := for_check0 (t := tgT [1, 2]) (b := b_leavesTurn) (st := st) (r := .bl false) (fun _ env => ∃ s1 s2, env = [.val (.tup us), s1, s2]) (leafAt us) (numU us) [.val (.tup us), .un, .un] ⟨_, _, rfl⟩ (fun k u env hk hI hj => by
      obtain ⟨s1, s2, rfl⟩ := hI
      obtain ⟨v, hv, rfl⟩ := num_get us k u hk
      rw [List.all_eq_true] at h
      have e := leaves_turn us k v s1 s2 st hv (h v (List.mem_of_getElem? hv)) hj
      refine ⟨_, tgT2_ap _ _ _ _, ?_⟩
      cases hc : leafAt us k with
      | true => rw [hc, if_pos rfl] at e; exact .inl ⟨rfl, _, .inl e, _, _, rfl⟩
      | false => rw [hc, if_neg Bool.false_ne_true] at e; exact .inr ⟨rfl, e⟩)
    rw [num_len] at q
    rcases q with ⟨q1, env', q2, s1, s2, rfl⟩ | ⟨q1, q2⟩
    · simp [isiN, tyU, tyNames, isB, lenN, gt2, i8, enumerateN, q2, h8, q1, -List.all_eq_true]
    · simp [isiN, tyU, tyNames, isB, lenN, gt2, i8, enumerateN, q2, h8, q1, -List.all_eq_true, -List.all_eq_false]
  · have i8 : (8 : Int) < us.length := by omega
    simp [isiN, tyU, tyNames, isB, lenN, gt2, i8, h8]
theorem are_leaves_no {u : U} {t : String} (ht : tyU u = some t) (hs : t ≠ "tuple") (st : Store) : f_are_leaves [u] st = .ok (.bl (areL u)) st := by
  have e : areL u = false := by
    cases u with
    | tup us => cases ht; exact absurd rfl hs
    | _ => rfl
  rw [e]
  unfold f_are_leaves b_are_leaves
  simp [isiN, ht, tyNames, isB, hs]
end C
namespace D
open PySem L2 PySem.Spec PyProof.Rows
/-! ### sets of texts -/
abbrev SKd (P : Program) (w : World) : PySem.KeyKind P w Str := PySem.strKind P w
def GoodT (P : Program) (w : World) (e : Int × Value) : Prop := ∃ x tk, e.2 = Value.str x tk ∧ e.1 = (SKd P w).hash x
def txtOf (e : Int × Value) : Str := match e.2 with
  | .str x _ => x
  | _ => Str.empty
/-- a set of just these texts lies at a -/
def SetS (P : Program) (w : World) (h : Heap) (a : Addr) (L : List Str) : Prop :=
  ∃ o es ep t, h.get? a = some o ∧ o.ExactSet ∧ o.data = .set es ep t ∧ (∀ e ∈ es.toList, GoodT P w e) ∧ (es.toList.map txtOf).Perm L ∧ L.Nodup ∧ es.size < scanBound ∧ t.fits es.size = true ∧ Ris t.place.toList ∧
    (w.params.followText "set-order" = true ∨ t.led = true)
section
variable {P : Program} {w : World} {h h' : Heap} {a : Addr} {L : List Str}
theorem SetS.at (R : SetS P w h a L) (k : ∀ o, h.get? a = some o → h'.get? a = some o) : SetS P w h' a L := by
  obtain ⟨o, es, ep, t, ho, r⟩ := R
  exact ⟨o, es, ep, t, k o ho, r⟩
theorem goodT_elems {l : List (Int × Value)} (g : ∀ e ∈ l, GoodT P w e) : ElemsOf (SKd P w) l := fun e he => by
  obtain ⟨x, tk, e1, e2⟩ := g e he
  exact ⟨⟨x, by rw [e1]; exact strKind_is P w x tk, e2⟩, by rw [e1] <;> rfl⟩
theorem goodT_is {e : Int × Value} (g : GoodT P w e) (x : Str) : (SKd P w).is x e.2 = true ↔ txtOf e = x := by
  obtain ⟨y, tk, e1, _⟩ := g
  unfold txtOf
  rw [e1]
  have q := KeyKind.is_eq_decide (knd := SKd P w) (strKind_is P w y tk) x
  rw [q, decide_eq_true_eq]
  exact eq_comm
end
section
variable {P : Program} {w : World} {A : Around} {E : Value → Shared → Prop} {s : Shared} {a : Addr} {L : List Str}
theorem stored {h : Heap} {o : Obj} {es es2 : Array (Int × Value)} {ep : Nat} {t t2 : SetTable} (ho : h.get? a = some o) (hd : o.data = .set es ep t) : (h.update a (Obj.putSet es2 t2)).get? a = some { o with data := .set es2 (ep + 1) t2 } := by
  have q := Heap.get?_update_self (Obj.putSet es2 t2) ho (by rw [putSet_of es2 t2 hd]; rfl)
  rw [putSet_of es2 t2 hd] at q
  exact q
theorem addS_tail {g : Bool → Sem Unit} (hg : ∀ (b : Bool) (s1 : Shared) (Q2 : Unit → Shared → Prop), Q2 () s1 → wpAny (model P w) A (g b) Q2 E s1)
    {o : Obj} {es : Array (Int × Value)} {ep : Nat} {t : SetTable} (ho : s.heap.get? a = some o) (hex : o.ExactSet) (hd : o.data = .set es ep t)
    {es2 : Array (Int × Value)} {t2 : SetTable} {L2 : List Str} (g2 : ∀ e ∈ es2.toList, GoodT P w e) (pm2 : (es2.toList.map txtOf).Perm L2) (nd2 : L2.Nodup)
    (hb2 : es2.size < scanBound) (hf2 : t2.fits es2.size = true) (hr : Ris t2.place.toList) (hl : w.params.followText "set-order" = true ∨ t2.led = true) {dm : Bool} {R : Option Bool → Shared → Prop}
    (hR : ∀ h', Heap.SameBut a s.heap h' → SetS P w h' a L2 → R (some true) { s with heap := h' }) :
    wpAny (model P w) A (do
        storeSet a es2 t2
        if (!dm && t2.tooFull) = true then do
            g (relayAll t2 es2 (SetTable.grown es2.size)).2.2
            storeSet a (relayAll t2 es2 (SetTable.grown es2.size)).1 (relayAll t2 es2 (SetTable.grown es2.size)).2.1
            pure (some true)
          else pure (some true)) R E s := by
  refine wpAny_bind (wpAny_storeSet_of ho hd ?_ (fits_of_scanBound hb2))
  have o1 := stored (es2 := es2) (t2 := t2) ho hd
  have sb := Heap.SameBut.update s.heap a (Obj.putSet es2 t2)
  split
  · have p1 := relayAll_perm t2 es2 (SetTable.grown es2.size)
    have p2 := relayAll_fits t2 es2 (SetTable.grown es2.size)
    have p3 := relayAll_ris t2 es2 (SetTable.grown es2.size)
    have p4 := relayAll_led t2 es2 (SetTable.grown es2.size)
    generalize relayAll t2 es2 (SetTable.grown es2.size) = Z at p1 p2 p3 p4 ⊢
    obtain ⟨es3, t3, gv⟩ := Z
    dsimp only at p1 p2 p3 p4 ⊢
    have hz : es3.size = es2.size := by rw [← Array.length_toList, p1.length_eq, Array.length_toList]
    have hb3 : es3.size < scanBound := by rw [hz]; exact hb2
    refine wpAny_bind (hg _ _ _ ?_)
    refine wpAny_bind (wpAny_storeSet_of o1 rfl ?_ (fits_of_scanBound hb3))
    refine wpAny_pure (hR _ (sb.trans (Heap.SameBut.update _ a _)) ?_)
    exact ⟨_, es3, _, t3, stored (es2 := es3) (t2 := t3) o1 rfl, hex, rfl, fun e he => g2 e (p1.mem_iff.mp he), (p1.map txtOf).trans pm2, nd2, hb3, p2, p3, hl.imp id fun z => by rw [p4]; exact z⟩
  · exact wpAny_pure (hR _ sb ⟨_, es2, _, t2, o1, hex, rfl, g2, pm2, nd2, hb2, hf2, hr, hl⟩)
/-- what is there when x was added -/
def plusS (L : List Str) (x : Str) : List Str := if x ∈ L then L else x :: L
theorem addS_hashed {x : Str} {tk : Tok} {Q : Bool → Shared → Prop} (R : SetS P w s.heap a L) (room : L.length + 1 < scanBound) (hQ : ∀ h' b, Heap.SameBut a s.heap h' → SetS P w h' a (plusS L x) → Q b { s with heap := h' }) :
    wpAny (model P w) A (setAddHashed a (.str x tk) ((SKd P w).hash x)) Q E s := by
  obtain ⟨o, es, ep, t, ho, hex, hd, g, pm, nd, hb, hf, hr, hl⟩ := R
  have isx : (SKd P w).is x (.str x tk) = true := strKind_is P w x tk
  have scx : (Value.str x tk).scannable = true := rfl
  have els : ElemsOf (SKd P w) es.toList := goodT_elems g
  have hlen : es.size = L.length := by rw [← pm.length_eq, List.length_map, Array.length_toList]
  unfold setAddHashed setAddHashedIn
  refine wpAny_holding (wpAny_bind (wpAny_setState_of ho hd hf ?_))
  dsimp only
  rw [byScan_of scx hb els]
  simp only [↓reduceIte]
  unfold setAddByScan
  refine wpAny_bind ?_
  refine wpAny_bind (wpAny_rule ?_)
  refine wpAny_bind (wpAny_setScan_of isx ho hd hf els ?_)
  cases hfi : List.findIdx? (fun e => (SKd P w).is x e.2) es.toList with
  | some j =>
    dsimp only
    obtain ⟨hj, pj, _⟩ := List.findIdx?_eq_some_iff_getElem.mp hfi
    have hx : x ∈ L := pm.mem_iff.mp (List.mem_map.mpr ⟨es.toList[j], List.getElem_mem hj, (goodT_is (g _ (List.getElem_mem hj)) x).mp pj⟩)
    refine wpAny_pure (wpAny_pure ?_)
    refine hQ s.heap _ (Heap.SameBut.refl a s.heap) ?_
    unfold plusS
    rw [if_pos hx]
    exact ⟨o, es, ep, t, ho, hex, hd, g, pm, nd, hb, hf, hr, hl⟩
  | none =>
    dsimp only
    have hx : x ∉ L := fun z => by
      obtain ⟨e, he, q⟩ := List.mem_map.mp (pm.mem_iff.mpr z)
      have c := List.findIdx?_eq_none_iff.mp hfi e he
      rw [(goodT_is (g e he) x).mpr q] at c
      cases c
    have gw : ∀ (b : Bool) {s1 : Shared} {Q2 : Unit → Shared → Prop}, Q2 () s1 → wpAny (model P w) A (match b with | true => rule "set.scan.the-table-gave-way" | false => pure ()) Q2 E s1 := fun b s1 Q2 q => by
      cases b <;> first | exact wpAny_pure q | exact wpAny_rule q
    have p1 := layNew_perm t es ((SKd P w).hash x) (.str x tk)
    have p2 := layNew_fits t es ((SKd P w).hash x) (.str x tk)
    have p3 := layNew_ris t es ((SKd P w).hash x) (.str x tk) hr
    have p4 := layNew_led t es ((SKd P w).hash x) (.str x tk)
    generalize layNew t es ((SKd P w).hash x) (.str x tk) = Z at p1 p2 p3 p4 ⊢
    obtain ⟨es2, t2, dm, gv⟩ := Z
    dsimp only at p1 p2 p3 p4 ⊢
    rw [Array.toList_push] at p1
    have pc : es2.toList.Perm (((SKd P w).hash x, Value.str x tk) :: es.toList) := p1.trans (List.perm_append_singleton _ _)
    have pk : (es2.toList.map txtOf).Perm (plusS L x) := by
      unfold plusS
      rw [if_neg hx]
      exact (pc.map txtOf).trans (List.Perm.cons x pm)
    have nd2 : (plusS L x).Nodup := by
      unfold plusS
      rw [if_neg hx]
      exact List.nodup_cons.mpr ⟨hx, nd⟩
    have g2 : ∀ e ∈ es2.toList, GoodT P w e := fun e he => by
      rcases List.mem_cons.mp (pc.mem_iff.mp he) with z | z
      · rw [z]; exact ⟨x, tk, rfl, rfl⟩
      · exact g e z
    have hz : es2.size = L.length + 1 := by rw [← Array.length_toList, pc.length_eq, List.length_cons, Array.length_toList, hlen]
    have hb2 : es2.size < scanBound := by rw [hz]; exact room
    have hled : w.params.followText "set-order" = true ∨ t2.led = true := hl.imp id fun z => by rw [p4]; exact z
    refine wpAny_bind (gw _ ?_)
    split
    · refine wpAny_bind ?_
      rw [hashByValue_scannable 8 scx]
      refine wpAny_pure ?_
      refine addS_tail ?_ ho hex hd g2 pk nd2 hb2 ?_ ?_ ?_ ?_
      · intro b s1 Q2 q; cases b <;> first | exact wpAny_pure q | exact wpAny_rule q
      · first | (split <;> first | exact p2 | exact SetTable.fits_plain_off p2) | exact p2
      · first | (split <;> exact p3) | exact p3
      · first | (split <;> exact hled) | exact hled
      · intro h' sb r; dsimp only; exact wpAny_pure (hQ h' _ sb r)
    · refine wpAny_bind (wpAny_pure ?_)
      simp only [↓reduceIte]
      refine addS_tail ?_ ho hex hd g2 pk nd2 hb2 p2 p3 hled ?_
      · intro b s1 Q2 q; cases b <;> first | exact wpAny_pure q | exact wpAny_rule q
      · intro h' sb r; dsimp only; exact wpAny_pure (hQ h' _ sb r)
end
end D
namespace D
open PySem L2 PySem.Spec PyProof.Rows
theorem strs_get : ∀ {us : List Value} {ys : List Str}, StrsAre us ys → ∀ (i : Nat) (v : Value), us[i]? = some v → ∃ x t, ys[i]? = some x ∧ v = .str x t
  | _, _, .nil, i, v, h => by simp at h
  | _, _, .cons n t hr, 0, v, h => by simp at h; exact ⟨n, t, rfl, h.symm⟩
  | _, _, .cons n t hr, i + 1, v, h => by
    rw [List.getElem?_cons_succ] at h
    rw [List.getElem?_cons_succ]
    exact strs_get hr i v h
abbrev nset (w : World) : Obj := { cls := .type "set", dict := none, data := .set #[] 0 (.fresh 0 0 (!w.params.followText "set-order")) }
theorem setS_fresh {P : Program} {w : World} {h : Heap} {a : Addr} (ho : h.get? a = some (nset w)) : SetS P w h a [] := by
  refine ⟨_, #[], 0, _, ho, ⟨rfl, rfl, rfl⟩, rfl, fun e he => by simp at he, by simp, List.nodup_nil, by unfold scanBound; decide, rfl, List.Pairwise.nil, ?_⟩
  show _ ∨ (!w.params.followText "set-order") = true
  cases w.params.followText "set-order"
  · exact .inr rfl
  · exact .inl rfl
theorem plus_mem (L : List Str) (x y : Str) : y ∈ plusS L x ↔ y ∈ L ∨ y = x := by
  unfold plusS
  split
  · exact ⟨.inl, fun z => z.elim id fun e => e ▸ ‹_›⟩
  · rw [List.mem_cons]; exact Or.comm
theorem plus_len (L : List Str) (x : Str) : (plusS L x).length ≤ L.length + 1 := by
  unfold plusS
  split
  · omega
  · rw [List.length_cons]; exact Nat.le_refl _
section
variable {P : Program} {w : World} {A : Around} {R : Result → Shared → Prop} {I : Addr} {fp wr : List Addr} {G : Array GenState → Array GenState → Prop} {n : Nat} {Pv : Nat → Value → Prop} {St : Nat → Shared → Prop}
theorem set_loop (W : WalksS P w A.in1 I fp wr G n Pv St) (S : Addr) (nf : S ∉ fp) (ys : List Str) (hn : ys.length = n) (hz : ys.length + 1 < scanBound) (vals : ∀ i v, Pv i v → ∃ x t, ys[i]? = some x ∧ v = .str x t) :
    ∀ (k i : Nat) (s : Shared) (L : List Str), n - i = k → i ≤ n → St i s → SetS P w s.heap S L → (∀ x, x ∈ L ↔ x ∈ ys.take i) → L.length ≤ i →
      (∀ s3 L3, Moved (S :: wr) G s s3 → SetS P w s3.heap S L3 → (∀ x, x ∈ L3 ↔ x ∈ ys) → R (.ok (.ret .none)) s3) → codeAny (model P w) A (.builtin "set.update.loop" ⟨[.ref S, .ref I], []⟩) R s := by
  have nw : S ∉ wr := fun z => nf (W.sub _ z)
  have more : ∀ b ∈ wr, b ∈ S :: wr := fun b hb => List.mem_cons_of_mem _ hb
  intro k
  induction k with
  | zero =>
    intro i s L ek hi hst hS hL hlen hR
    have ein : i = n := by omega
    subst ein
    refine codeAny_builtin PyProof.Rows.F.entry_set_update_loop ?_
    rw [Around.under_plainId PyProof.Rows.F.plain_set_update_loop _]
    show wpAny _ A.in1 (pyNext (.ref I) >>= _) _ _ s
    refine wpAny_bind (W.done s _ _ hst fun s3 hm => ?_)
    show wpAny _ A.in1 (ret Value.none) _ _ s3
    exact wpAny_pure (hR s3 L (hm.mono more) (hS.at fun o e => hm.heap S _ nw e) fun x => by rw [hL x, ← hn, List.take_length])
  | succ k ih =>
    intro i s L ek hi hst hS hL hlen hR
    have hlt : i < n := by omega
    refine codeAny_builtin PyProof.Rows.F.entry_set_update_loop ?_
    rw [Around.under_plainId PyProof.Rows.F.plain_set_update_loop _]
    show wpAny _ A.in1 (pyNext (.ref I) >>= _) _ _ s
    refine wpAny_bind (W.item i s _ _ hlt hst fun v s3 hP hst3 hm => ?_)
    obtain ⟨x, t, hx, rfl⟩ := vals i v hP
    have hS3 : SetS P w s3.heap S L := hS.at fun o e => hm.heap S _ nw e
    show wpAny _ A.in1 (holding [Value.str x t] (setAdd S (.str x t)) >>= _) _ _ s3
    refine wpAny_bind (wpAny_holding ?_)
    unfold setAdd
    refine wpAny_holding ?_
    refine wpAny_bind ((SKd P w).pyHash (k := x) (strKind_is _ _ _ _) ?_)
    refine addS_hashed (s := { s3 with toks := s3.toks + 1 }) hS3 (by omega) fun h' b0 sb hS4 => ?_
    have hL4 : ∀ y, y ∈ plusS L x ↔ y ∈ ys.take (i + 1) := fun y => by
      rw [plus_mem, hL y, List.take_add_one, hx, List.mem_append]
      simp [eq_comm]
    have hl4 : (plusS L x).length ≤ i + 1 := Nat.le_trans (plus_len L x) (Nat.succ_le_succ hlen)
    refine wpAny_pure ⟨plainId_quiet PyProof.Rows.F.plain_set_update_loop _, ih (i + 1) _ _ (by omega) hlt (W.frame _ s3 _ _ hst3 (Nat.le_succ _) fun b hb o e => ?_) hS4 hL4 hl4 fun s5 L5 hm5 hS5 hL5 => ?_⟩
    · rw [sb.2 b (fun z : b = S => nf (by rw [← z]; exact hb))]; exact e
    · refine hR s5 L5 (Moved.trans W.gtrans ((hm.mono more).then_heap (Nat.le_succ _) fun b o hb e => ?_) hm5) hS5 hL5
      rw [sb.2 b (fun z : b = S => hb (by rw [z]; exact List.mem_cons_self))]; exact e
end
section
variable {P : Program} {w : World} {A : Around} {E : Value → Shared → Prop} {s : Shared}
set_option maxHeartbeats 3200000 in
theorem set_of_list {l : Addr} {its : Array Value} {ys : List Str} {Q : Value → Shared → Prop} (hA : A.handled = none) (hl : s.heap.IsList l its) (hi : StrsAre its.toList ys) (hz : ys.length + 1 < scanBound)
    (fin : ∀ (h' : Heap) (tk : Nat) (L : List Str), SetS P w h' s.heap.objs.size L → (∀ x, x ∈ L ↔ x ∈ ys) → (∀ b o, b < s.heap.objs.size → s.heap.get? b = some o → h'.get? b = some o) → Q (.ref s.heap.objs.size) { s with heap := h', toks := tk }) :
    wpAny (model P w) A (call (.type "set") [.ref l]) Q E s := by
  obtain ⟨mc, mt, hmro⟩ := PySem.F.called_set.mro
  have isMade := PySem.F.called_set.made
  have isSub := PySem.F.called_set.sub
  refine wpAny_call (codeAny_of_tree ?_)
  show wpAny _ _ (callAny (.type "set") _) _ _ _
  refine wpAny_pure ⟨Code.quiet_builtin _ (by decide +kernel), codeAny_builtin PySem.F.entry_type_call ?_⟩
  rw [Around.under_plain (weight_type_call_type "set" [.ref l] []) rfl]
  have noTy := PySem.F.called_set.notType
  have canC := PySem.F.called_set.canCreate
  have tcl := PySem.F.typeCall_set_1 (.ref l)
  repeat (any_goals (first | assumption | wp_step))
  refine codeAny_mono (code_set_led1 (.ref l) (E := E) (Q₁ := fun ob s1 => ob = .ref s.heap.objs.size ∧ s1 = { s with heap := s.heap.push (nset w) }) ⟨rfl, rfl⟩) fun r s1 hr => ?_
  cases r with
  | error e => exact hr
  | ok fl =>
    cases fl with
    | ret ob =>
      obtain ⟨rfl, rfl⟩ := hr
      have atS : (s.heap.push (nset w)).get? s.heap.objs.size = some (nset w) := Heap.get?_push_size _ rfl
      have isS : Shared.TypeIs { s with heap := s.heap.push (nset w) } (.ref s.heap.objs.size) "set" := ⟨_, atS, rfl⟩
      have iniL := PySem.F.called_set.init.lookup
      have iniB := PySem.F.called_set.init.bind (.ref s.heap.objs.size)
      repeat (any_goals (first | assumption | wp_step))
      refine codeAny_mono (codeAny_call_builtin (R := wants (fun r s2 => r = .none ∧ ∃ h' tk L, s2 = { s with heap := h', toks := tk } ∧ SetS P w h' s.heap.objs.size L ∧ (∀ x, x ∈ L ↔ x ∈ ys) ∧ (∀ b o, b < s.heap.objs.size → s.heap.get? b = some o → h'.get? b = some o)) E)
        PySem.F.called_set.init.plain PySem.F.entry_set_init (check_set_init_1 isS ?_)) fun r2 s2 hr2 => ?_
      · obtain ⟨⟨oc, od, oD, osl⟩, hol, hcl, ne, hdl⟩ := hl
        simp only at hcl hdl
        subst hcl; subst hdl
        have hol2 : (s.heap.push (nset w)).get? l = some { cls := .type "list", dict := od, data := .seq its ne, slots := osl } := Heap.get?_push_of_some _ hol
        have sub1 := PySem.F.sub_list_set
        have sub2 := PySem.F.sub_list_frozenset
        have noD : (Value.type "list" == Value.type "dict") = false := by decide
        have isL : (s.heap.push (nset w)).IsList l its := ⟨_, hol2, rfl, ne, rfl⟩
        unfold Builtin.«set.__init__» noKeywords Builtin.Frozenset.updateFrom
        generalize hp : pyIter = pI
        wp_walk
        subst hp
        refine wpAny_pyIter_list isL ?_
        refine wpAny_bind (wpAny_runValue ?_)
        have ll : l < s.heap.objs.size := Heap.lt_size hol
        have hA3 : A.in1.in1.in1.handled = none := by simp [hA]
        have zN : (s.heap.push (nset w)).objs.size = s.heap.objs.size + 1 := Heap.size_push ..
        have neI : l ≠ (s.heap.push (nset w)).objs.size := by rw [zN]; exact Nat.ne_of_lt (Nat.lt_succ_of_lt ll)
        have nf : s.heap.objs.size ∉ [(s.heap.push (nset w)).objs.size, l] := by
          rw [zN]; simp only [List.mem_cons, List.not_mem_nil, or_false, not_or]
          exact ⟨Nat.ne_of_lt (Nat.lt_succ_self _), Nat.ne_of_gt ll⟩
        have hn : ys.length = its.size := by rw [← StrsAre.len_eq hi, Array.length_toList]
        have vals : ∀ (i : Nat) (v : Value), its[i]? = some v → ∃ x t, ys[i]? = some x ∧ v = .str x t := fun i v hv => strs_get hi i v (by rw [Array.getElem?_toList]; exact hv)
        refine set_loop ((Walks.list hA3 _ l neI its).toS) s.heap.objs.size nf ys hn hz vals (its.size - 0) 0 _ [] (by omega) (Nat.zero_le _) ⟨⟨_, Heap.get?_push_size _ rfl, rfl, rfl⟩, (isL.push _)⟩ ?z0 (by simp) (by simp) ?zR
        case z0 => exact setS_fresh (Heap.get?_push_of_some _ atS)
        case zR =>
          intro s3 L hm hS3 hL
          obtain ⟨h3, g3, d3, tk3, os3⟩ := s3
          have eg : g3 = s.gens := hm.gens
          have ed : d3 = s.drawn := hm.drawn
          have eo : os3 = s.os := hm.os
          subst eg; subst ed; subst eo
          show wpAny _ _ _ _ _ _
          refine wpAny_pure ?_
          show wpAny _ _ (ret Value.none) _ _ _
          refine wpAny_pure ⟨rfl, h3, tk3, L, rfl, hS3, hL, fun b o hb e => ?_⟩
          refine hm.heap b o ?_ (Heap.get?_push_of_some _ (Heap.get?_push_of_some _ e))
          simp only [List.mem_cons, List.not_mem_nil, or_false, not_or]
          exact ⟨Nat.ne_of_lt hb, by rw [zN]; exact Nat.ne_of_lt (Nat.lt_succ_of_lt hb)⟩
      · cases r2 with
        | error e => exact hr2
        | ok fl2 =>
          cases fl2 with
          | ret r =>
            obtain ⟨rfl, h3, tk, L, rfl, hS3, hL, hk3⟩ := hr2
            repeat (any_goals (first | assumption | wp_step))
            exact fin _ _ _ hS3 hL hk3
          | _ => exact hr2.elim
    | _ => exact hr.elim
set_option maxHeartbeats 3200000 in
theorem set_of_tuple {l : Addr} {its : Array Value} {ys : List Str} {Q : Value → Shared → Prop} (hA : A.handled = none) (hl : s.heap.IsTuple l its) (hi : StrsAre its.toList ys) (hz : ys.length + 1 < scanBound)
    (fin : ∀ (h' : Heap) (tk : Nat) (L : List Str), SetS P w h' s.heap.objs.size L → (∀ x, x ∈ L ↔ x ∈ ys) → (∀ b o, b < s.heap.objs.size → s.heap.get? b = some o → h'.get? b = some o) → Q (.ref s.heap.objs.size) { s with heap := h', toks := tk }) :
    wpAny (model P w) A (call (.type "set") [.ref l]) Q E s := by
  obtain ⟨mc, mt, hmro⟩ := PySem.F.called_set.mro
  have isMade := PySem.F.called_set.made
  have isSub := PySem.F.called_set.sub
  refine wpAny_call (codeAny_of_tree ?_)
  show wpAny _ _ (callAny (.type "set") _) _ _ _
  refine wpAny_pure ⟨Code.quiet_builtin _ (by decide +kernel), codeAny_builtin PySem.F.entry_type_call ?_⟩
  rw [Around.under_plain (weight_type_call_type "set" [.ref l] []) rfl]
  have noTy := PySem.F.called_set.notType
  have canC := PySem.F.called_set.canCreate
  have tcl := PySem.F.typeCall_set_1 (.ref l)
  repeat (any_goals (first | assumption | wp_step))
  refine codeAny_mono (code_set_led1 (.ref l) (E := E) (Q₁ := fun ob s1 => ob = .ref s.heap.objs.size ∧ s1 = { s with heap := s.heap.push (nset w) }) ⟨rfl, rfl⟩) fun r s1 hr => ?_
  cases r with
  | error e => exact hr
  | ok fl =>
    cases fl with
    | ret ob =>
      obtain ⟨rfl, rfl⟩ := hr
      have atS : (s.heap.push (nset w)).get? s.heap.objs.size = some (nset w) := Heap.get?_push_size _ rfl
      have isS : Shared.TypeIs { s with heap := s.heap.push (nset w) } (.ref s.heap.objs.size) "set" := ⟨_, atS, rfl⟩
      have iniL := PySem.F.called_set.init.lookup
      have iniB := PySem.F.called_set.init.bind (.ref s.heap.objs.size)
      repeat (any_goals (first | assumption | wp_step))
      refine codeAny_mono (codeAny_call_builtin (R := wants (fun r s2 => r = .none ∧ ∃ h' tk L, s2 = { s with heap := h', toks := tk } ∧ SetS P w h' s.heap.objs.size L ∧ (∀ x, x ∈ L ↔ x ∈ ys) ∧ (∀ b o, b < s.heap.objs.size → s.heap.get? b = some o → h'.get? b = some o)) E)
        PySem.F.called_set.init.plain PySem.F.entry_set_init (check_set_init_1 isS ?_)) fun r2 s2 hr2 => ?_
      · obtain ⟨⟨oc, od, oD, osl⟩, hol, hcl, ne, hdl⟩ := hl
        simp only at hcl hdl
        subst hcl; subst hdl
        have hol2 : (s.heap.push (nset w)).get? l = some { cls := .type "tuple", dict := od, data := .seq its ne, slots := osl } := Heap.get?_push_of_some _ hol
        have sub1 := PySem.F.sub_tuple_set
        have sub2 := PySem.F.sub_tuple_frozenset
        have noD : (Value.type "tuple" == Value.type "dict") = false := by decide
        have isL : (s.heap.push (nset w)).IsTuple l its := ⟨_, hol2, rfl, ne, rfl⟩
        unfold Builtin.«set.__init__» noKeywords Builtin.Frozenset.updateFrom
        generalize hp : pyIter = pI
        wp_walk
        subst hp
        refine wpAny_pyIter_tuple isL ?_
        refine wpAny_bind (wpAny_runValue ?_)
        have ll : l < s.heap.objs.size := Heap.lt_size hol
        have hA3 : A.in1.in1.in1.handled = none := by simp [hA]
        have zN : (s.heap.push (nset w)).objs.size = s.heap.objs.size + 1 := Heap.size_push ..
        have neI : l ≠ (s.heap.push (nset w)).objs.size := by rw [zN]; exact Nat.ne_of_lt (Nat.lt_succ_of_lt ll)
        have nf : s.heap.objs.size ∉ [(s.heap.push (nset w)).objs.size, l] := by
          rw [zN]; simp only [List.mem_cons, List.not_mem_nil, or_false, not_or]
          exact ⟨Nat.ne_of_lt (Nat.lt_succ_self _), Nat.ne_of_gt ll⟩
        have hn : ys.length = its.size := by rw [← StrsAre.len_eq hi, Array.length_toList]
        have vals : ∀ (i : Nat) (v : Value), its[i]? = some v → ∃ x t, ys[i]? = some x ∧ v = .str x t := fun i v hv => strs_get hi i v (by rw [Array.getElem?_toList]; exact hv)
        refine set_loop ((Walks.tuple hA3 _ l neI its).toS) s.heap.objs.size nf ys hn hz vals (its.size - 0) 0 _ [] (by omega) (Nat.zero_le _) ⟨⟨_, Heap.get?_push_size _ rfl, rfl, rfl⟩, (isL.push _)⟩ ?z0 (by simp) (by simp) ?zR
        case z0 => exact setS_fresh (Heap.get?_push_of_some _ atS)
        case zR =>
          intro s3 L hm hS3 hL
          obtain ⟨h3, g3, d3, tk3, os3⟩ := s3
          have eg : g3 = s.gens := hm.gens
          have ed : d3 = s.drawn := hm.drawn
          have eo : os3 = s.os := hm.os
          subst eg; subst ed; subst eo
          show wpAny _ _ _ _ _ _
          refine wpAny_pure ?_
          show wpAny _ _ (ret Value.none) _ _ _
          refine wpAny_pure ⟨rfl, h3, tk3, L, rfl, hS3, hL, fun b o hb e => ?_⟩
          refine hm.heap b o ?_ (Heap.get?_push_of_some _ (Heap.get?_push_of_some _ e))
          simp only [List.mem_cons, List.not_mem_nil, or_false, not_or]
          exact ⟨Nat.ne_of_lt hb, by rw [zN]; exact Nat.ne_of_lt (Nat.lt_succ_of_lt hb)⟩
      · cases r2 with
        | error e => exact hr2
        | ok fl2 =>
          cases fl2 with
          | ret r =>
            obtain ⟨rfl, h3, tk, L, rfl, hS3, hL, hk3⟩ := hr2
            repeat (any_goals (first | assumption | wp_step))
            exact fin _ _ _ hS3 hL hk3
          | _ => exact hr2.elim
    | _ => exact hr.elim
end
end D
namespace D
open PySem L2 PySem.Spec PyProof.Rows
section
variable {P : Program} {w : World} {A : Around} {E : Value → Shared → Prop} {s : Shared} {a : Addr} {L : List Str}
theorem strsAre_all : ∀ (l : List Value), (∀ v ∈ l, ∃ x tk, v = Value.str x tk) → StrsAre l (l.map strOf)
  | [], _ => .nil
  | v :: l, h => by
    obtain ⟨x, tk, rfl⟩ := h v List.mem_cons_self
    exact .cons x tk (strsAre_all l fun u hu => h u (List.mem_cons_of_mem _ hu))
theorem sortedS_set {Q : Value → Shared → Prop} (R : SetS P w s.heap a L) (hA : A.handled = none)
    (fin : ∀ s3 p (out : Array Value) (c : Nat) (ys : List Str), (∀ b o, s.heap.get? b = some o → s3.heap.get? b = some o) → s3.gens = s.gens → s3.os = s.os → s.heap.objs.size ≤ p →
      s3.heap.get? p = some (seqObj "list" out c) → StrsAre out.toList ys → ys.Perm L → sortedS ys = true → Q (.ref p) s3) : wpAny (model P w) A (call (.builtin "sorted") [.ref a]) Q E s := by
  obtain ⟨o, es, ep, t, ho, hex, hd, g, pm, nd, hb, hf, hr, hl⟩ := R
  refine Calls.call_function_entry kind_sorted plain_sorted entry_sorted (args_sorted1 _) ?_
  unfold Builtin.«sorted»
  refine wpAny_bind (m := checkCount "sorted" 1 1 _) (wpAny_pure ?_)
  refine wpAny_bind (collect_set (A := A.in1) hA ⟨o, ho, hex.1, hd⟩ hf hb hr hl fun s1 vs k1 hz g1 o1 pm1 => ?_)
  have hvl : vs.length = es.size := by rw [pm1.length_eq, List.length_map, Array.length_toList]
  have hfit : vs.length ≤ sizeLine := by rw [hvl]; exact fits_of_scanBound hb
  have hS : StrsAre vs (vs.map strOf) := strsAre_all vs fun v hv => by
    obtain ⟨e, he, q⟩ := List.mem_map.mp (pm1.mem_iff.mp hv)
    obtain ⟨x, tk, e1, _⟩ := g e he
    exact ⟨x, tk, by rw [← q]; exact e1⟩
  have pk : (vs.map strOf).Perm L := by
    have q := pm1.map strOf
    rw [List.map_map] at q
    have e : es.toList.map (strOf ∘ fun x => x.2) = es.toList.map txtOf := List.map_congr_left fun e he => by
      obtain ⟨x, tk, e1, _⟩ := g e he
      show strOf e.2 = txtOf e
      unfold txtOf
      rw [e1]
      rfl
    rw [e] at q
    exact q.trans pm
  refine wpAny_bind (wpAny_newList ?_ hfit)
  have hoL : (s1.heap.push (seqObj "list" vs.toArray 0)).get? s1.heap.objs.size = some (seqObj "list" vs.toArray 0) := Heap.get?_push_size _ rfl
  refine wpAny_bind (wpAny_holding (wpAny_call_entry slot_list_sort ⟨_, hoL, rfl⟩ entry_list_sort (list_sort_treeKSt strKind_oneLt hoL hS.keysOf (fun v1 v2 rest e => keyKind_strs (by rw [← e]; exact hS)) hfit fun st2 hp hso _ => ⟨_, rfl, ?_⟩) (args_list_sort _)))
  obtain ⟨ys, e1, e2, e3⟩ := sorted_out_str hS hp hso
  obtain ⟨c, hc⟩ := sortedHeap_at (vs := vs) (out := (arrOf st2).map (·.2)) hoL
  refine wpAny_pure ⟨_, rfl, fin _ s1.heap.objs.size _ c ys (fun b u e => ?_) g1 o1 hz hc e1 (e2.trans pk) e3⟩
  have q := k1 b u e
  have hlt := Heap.lt_size q
  show (sortedHeap (s1.heap.push (seqObj "list" vs.toArray 0)) s1.heap.objs.size vs _).get? b = some u
  rw [sortedHeap_old (Nat.ne_of_lt hlt) (by rw [Heap.size_push]; exact Nat.lt_succ_of_lt hlt)]
  exact Heap.get?_push_of_some _ q
end
/-! ### as heap data -/
def SetSO (P : Program) (w : World) (a : Addr) (L : List Str) : HO := .ext fun h => SetS P w h a L
section
variable {X : Cx}
theorem setSO_new {P : Program} {w : World} {H : Hp} {h : Heap} {a : Addr} {L : List Str} (R : SetS P w h a L) : ObjOk P w H h a (SetSO P w a L) := by
  have ⟨o, _, _, _, ho, _⟩ := R
  exact ⟨R, ⟨o, ho⟩, fun h1 h2 q k => SetS.at q k⟩
theorem setSO_get {pins : List (Addr × Obj)} {sg : L2.St} {H : Hp} {s : Shared} {a : Addr} {L : List Str} (I : Inv X pins sg H s) (ha : H a = some (SetSO X.prog X.w a L)) : SetS X.prog X.w s.heap a L := (I.hok a _ ha).1
theorem strs_of : ∀ {ys : List Str} {us : List Value}, Vals (ys.map V.str) us → StrsAre us ys
  | [], _, .nil => .nil
  | y :: ys, _, .cons r rr => by
    obtain ⟨t, rfl⟩ := r
    exact .cons y t (strs_of rr)
theorem vals_strs : ∀ {us : List Value} {ys : List Str}, StrsAre us ys → Vals (ys.map V.str) us
  | _, _, .nil => .nil
  | _, _, .cons x t r => .cons ⟨t, rfl⟩ (vals_strs r)
def rSetS (K : PySem.W.Frag) (P : Program) (w : World) : List V → Hp → VK → Prop := fun vs H Q => ∃ (l : Addr) (ys : List Str), vs = [.ref l] ∧ (SqL K H l (ys.map V.str) ∨ SqT K H l (ys.map V.str)) ∧ ys.length + 1 < scanBound ∧
  ∀ p L, H p = none → L.Nodup → (∀ x, x ∈ L ↔ x ∈ ys) → Q (.ref p) (upd H p (SetSO P w p L))
theorem SetS.nodup {P : Program} {w : World} {h : Heap} {a : Addr} {L : List Str} (R : SetS P w h a L) : L.Nodup := by
  obtain ⟨_, _, _, _, _, _, _, _, _, nd, _⟩ := R
  exact nd
theorem cr_setS (hc : X.calm = true) : CallR X (.type "set") (rSetS X.K X.prog X.w) := by
  intro pins s sg H vs us Q I r h
  obtain ⟨l, ys, rfl, hq, hz, q⟩ := h
  rw [Vals.ref1 r]
  have fin : ∀ (h' : Heap) (tk : Nat) (L : List Str), SetS X.prog X.w h' s.heap.objs.size L → (∀ x, x ∈ L ↔ x ∈ ys) → (∀ b o, b < s.heap.objs.size → s.heap.get? b = some o → h'.get? b = some o) → EP X pins sg Q (.ref s.heap.objs.size) { s with heap := h', toks := tk } := fun h' tk L R hL hk =>
    ⟨.ref _, _, I.laid (t' := tk) (fun b u e => hk b u (Heap.lt_size e) e) (Nat.le_refl _) (setSO_new R), rfl, q _ L (I.hok.fresh (Nat.le_refl _)) R.nodup hL⟩
  rcases hq with hq | hq
  · obtain ⟨its, rv, p, _⟩ := I.list hq
    exact set_of_list (I.ok.hd hc) p.isList (strs_of rv) hz fin
  · obtain ⟨its, rv, p, _⟩ := I.tuple hq
    exact set_of_tuple (I.ok.hd hc) (show s.heap.IsTuple l its.toArray from p) (strs_of rv) hz fin
def rSortS (P : Program) (w : World) : List V → Hp → VK → Prop := fun vs H Q => ∃ (a : Addr) (L : List Str), vs = [.ref a] ∧ H a = some (SetSO P w a L) ∧ L.length ≤ sizeLine ∧
  ∀ p (ys : List Str), H p = none → ys.Perm L → sortedS ys = true → Q (.ref p) (upd H p (.lst (ys.map V.str)))
theorem cr_sortS (hc : X.calm = true) : CallR X (.builtin "sorted") (rSortS X.prog X.w) := by
  intro pins s sg H vs us Q I r h
  obtain ⟨a, L, rfl, ha, hz, q⟩ := h
  rw [Vals.ref1 r]
  refine sortedS_set (setSO_get I ha) (I.ok.hd hc) fun s3 p out c ys k g o hp hg hi pm hs => ?_
  have hlen : (ys.map V.str).length ≤ sizeLine := by rw [List.length_map, pm.length_eq]; exact hz
  have hn : H p = none := I.hok.fresh hp
  have J : Inv X pins sg (upd H p (.lst (ys.map V.str))) { s with heap := s3.heap, gens := s3.gens, drawn := s3.drawn, toks := s3.toks } :=
    I.call (ch := []) (Un.laid k hp hn) (I.hok.laid k hp ⟨hlen, out.toList, c, vals_strs hi, hg⟩) (by rw [g]; exact I.bare) (fun _ z => nomatch z)
  have e : s3 = { s with heap := s3.heap, gens := s3.gens, drawn := s3.drawn, toks := s3.toks } := by
    cases s3
    cases s
    cases o
    rfl
  rw [e]
  exact ⟨.ref p, _, J, rfl, q p ys hn pm hs⟩
def rLenS (P : Program) (w : World) : List V → Hp → VK → Prop := fun vs H Q => ∃ (a : Addr) (L : List Str), vs = [.ref a] ∧ H a = some (SetSO P w a L) ∧ Q (.int L.length) H
theorem cr_lenS : CallR X (.builtin "len") (rLenS X.prog X.w) := by
  intro pins s sg H vs us Q I r h
  obtain ⟨a, L, rfl, ha, q⟩ := h
  rw [Vals.ref1 r]
  obtain ⟨o, es, ep, t, ho, hex, hd, g, pm, nd, hb, hf, _⟩ := setSO_get I ha
  have hl : es.size = L.length := by rw [← pm.length_eq, List.length_map, Array.length_toList]
  refine call_len_set ho hex hd hf (by unfold scanBound at hb; omega) ?_
  rw [hl]
  exact ⟨.int L.length, H, I.tok _, ⟨_, rfl⟩, q⟩
/-- sorted(xs), xs a list of texts -/
def rSortL (K : PySem.W.Frag) : List V → Hp → VK → Prop := fun vs H Q => ∃ (a : Addr) (L : List Str), vs = [.ref a] ∧ SqL K H a (L.map V.str) ∧
  ∀ p (ys : List Str), H p = none → ys.Perm L → sortedS ys = true → Q (.ref p) (upd H p (.lst (ys.map V.str)))
theorem cr_sortL : CallR X (.builtin "sorted") (rSortL X.K) := by
  intro pins s sg H vs us Q I r h
  obtain ⟨a, L, rfl, ha, q⟩ := h
  rw [Vals.ref1 r]
  obtain ⟨its, rv, p, hz⟩ := I.list ha
  have hS := strs_of rv
  have hl : its.length = L.length := StrsAre.len_eq hS
  have hz2 : L.length ≤ sizeLine := by rw [List.length_map] at hz; exact hz
  refine sorted_strsAny (vs := its) p.isList hS (by rw [hl]; exact hz2) fun out ys e1 e2 e3 => ?_
  obtain ⟨c, hc⟩ := sortedAll_at s.heap its out
  have hn : H (s.heap.objs.size + 1) = none := I.hok.fresh (Nat.le_succ _)
  refine ⟨.ref _, _, I.laid (t' := s.toks) (o := .lst (ys.map V.str)) (fun b u e => sortedAll_old e) (Nat.le_succ _) ⟨by rw [List.length_map, e2.length_eq]; exact hz2, out.toList, c, vals_strs e1, hc⟩, rfl, q _ ys hn e2 e3⟩
end
end D
namespace D
open PySem L2
/-! ### texts in order -/
theorem ltCps_eq : ∀ a b : List Nat, PySem.Spec.ltCps a b = decide (a < b)
  | [], [] => by simp [PySem.Spec.ltCps]
  | [], _ :: _ => by simp [PySem.Spec.ltCps]
  | _ :: _, [] => by simp [PySem.Spec.ltCps]
  | a :: r, b :: t => by
    unfold PySem.Spec.ltCps
    rw [ltCps_eq r t]
    simp only [List.cons_lt_cons_iff, Bool.decide_or, Bool.decide_and]
    rfl
def leS (x y : Str) : Prop := x.cps.toList ≤ y.cps.toList
theorem leS_iff (x y : Str) : leS x y ↔ ltC y x = false := by
  unfold leS ltC
  rw [decide_eq_false_iff_not, List.not_lt]
theorem leS_anti {x y : Str} (h1 : leS x y) (h2 : leS y x) : x = y := by
  have := List.le_antisymm h1 h2
  cases x with | mk a => cases y with | mk b =>
    congr 1
    exact Array.toList_inj.mp this
theorem leS_total (x y : Str) : leS x y ∨ leS y x := List.le_total _ _
theorem leS_trans {x y z : Str} (h1 : leS x y) (h2 : leS y z) : leS x z := List.le_trans h1 h2
theorem leS_refl (x : Str) : leS x x := List.le_refl _
def insS (x : Str) : List Str → List Str
  | [] => [x]
  | y :: r => if ltC y x then y :: insS x r else x :: y :: r
def sortS : List Str → List Str
  | [] => []
  | x :: r => insS x (sortS r)
def dedS : List Str → List Str
  | [] => []
  | x :: r => plusS (dedS r) x
theorem ins_perm (x : Str) : ∀ l, (insS x l).Perm (x :: l)
  | [] => .refl _
  | y :: r => by
    unfold insS
    split
    · exact ((ins_perm x r).cons y).trans (.swap x y r)
    · exact .refl _
theorem sort_perm : ∀ l, (sortS l).Perm l
  | [] => .refl _
  | x :: r => (ins_perm x _).trans ((sort_perm r).cons x)
theorem ins_sorted (x : Str) : ∀ l, l.Pairwise leS → (insS x l).Pairwise leS
  | [], _ => by unfold insS; exact List.pairwise_singleton _ _
  | y :: r, h => by
    obtain ⟨h1, h2⟩ := List.pairwise_cons.mp h
    unfold insS
    split
    · rename_i hlt
      refine List.pairwise_cons.mpr ⟨fun z hz => ?_, ins_sorted x r h2⟩
      rcases List.mem_cons.mp ((ins_perm x r).mem_iff.mp hz) with e | e
      · subst e
        rcases leS_total y z with q | q
        · exact q
        · rw [leS_iff, hlt] at q; cases q
      · exact h1 z e
    · rename_i hlt
      have hxy : leS x y := (leS_iff x y).mpr (by simpa using hlt)
      refine List.pairwise_cons.mpr ⟨fun z hz => ?_, h⟩
      rcases List.mem_cons.mp hz with e | e
      · subst e; exact hxy
      · exact leS_trans hxy (h1 z e)
theorem sort_sorted : ∀ l, (sortS l).Pairwise leS
  | [] => List.Pairwise.nil
  | x :: r => ins_sorted x _ (sort_sorted r)
theorem rising_pw : ∀ (l : List Str) (x : Str), PyProof.Rows.risingS x l = true → (x :: l).Pairwise leS
  | [], x, _ => List.pairwise_singleton _ _
  | y :: r, x, h => by
    unfold PyProof.Rows.risingS at h
    rw [Bool.and_eq_true, ltCps_eq] at h
    have ih := rising_pw r y h.2
    have hxy : leS x y := (leS_iff x y).mpr (by have := h.1; unfold ltC; simpa using this)
    refine List.pairwise_cons.mpr ⟨fun z hz => ?_, ih⟩
    rcases List.mem_cons.mp hz with e | e
    · subst e; exact hxy
    · exact leS_trans hxy ((List.pairwise_cons.mp ih).1 z e)
theorem sortedS_pw : ∀ (l : List Str), PyProof.Rows.sortedS l = true → l.Pairwise leS
  | [], _ => List.Pairwise.nil
  | x :: r, h => rising_pw r x h
theorem sort_unique {ys L : List Str} (h1 : PyProof.Rows.sortedS ys = true) (h2 : ys.Perm L) : ys = sortS L :=
  List.Perm.eq_of_pairwise (fun _ _ _ _ p q => leS_anti p q) (sortedS_pw ys h1) (sort_sorted L) (h2.trans (sort_perm L).symm)
theorem sort_congr {L L' : List Str} (h : L.Perm L') : sortS L = sortS L' :=
  List.Perm.eq_of_pairwise (fun _ _ _ _ p q => leS_anti p q) (sort_sorted L) (sort_sorted L') ((sort_perm L).trans (h.trans (sort_perm L').symm))
theorem ded_mem : ∀ (l : List Str) (x : Str), x ∈ dedS l ↔ x ∈ l
  | [], x => by simp [dedS]
  | y :: r, x => by
    unfold dedS
    rw [plus_mem, ded_mem r x, List.mem_cons]
    exact Or.comm
theorem ded_nodup : ∀ l : List Str, (dedS l).Nodup
  | [] => List.nodup_nil
  | y :: r => by
    unfold dedS plusS
    split
    · exact ded_nodup r
    · rename_i h
      exact List.nodup_cons.mpr ⟨h, ded_nodup r⟩
theorem ded_perm {L ys : List Str} (nd : L.Nodup) (h : ∀ x, x ∈ L ↔ x ∈ ys) : L.Perm (dedS ys) := (List.perm_ext_iff_of_nodup nd (ded_nodup ys)).mpr fun x => (h x).trans (ded_mem ys x).symm
theorem ded_len : ∀ l : List Str, (dedS l).length ≤ l.length
  | [] => Nat.le_refl _
  | y :: r => by
    unfold dedS
    exact Nat.le_trans (plus_len _ _) (Nat.succ_le_succ (ded_len r))
/-! ### sorted(set(x)), len(set(x)), sorted(x) -/
def txts : U → Option (List Str)
  | .lst us => strsU us
  | .tup us => strsU us
  | _ => none
def sortSet1 (u : U) : Option (List U) := (txts u).bind fun ys => if ys.length + 1 < 4096 then some ((sortS (dedS ys)).map U.str) else none
def lenSet1 (u : U) : Option U := (txts u).bind fun ys => if ys.length + 1 < 4096 then some (.int (dedS ys).length) else none
def sort1 : U → Option (List U)
  | .lst us => (strsU us).bind fun ys => some ((sortS ys).map U.str)
  | _ => none
section
variable {X : Cx} {xs : XS} {wx : WX} {pos : Pos}
theorem txts_rep {K : PySem.W.Frag} {W : Addr → Prop} {io : List Addr} {H : Hp} {u : U} {v : V} {ys : List Str} (r : Rep K W io H u v) (h : txts u = some ys) : ∃ l, v = .ref l ∧ (SqL K H l (ys.map V.str) ∨ SqT K H l (ys.map V.str)) := by
  unfold txts at h
  split at h
  · rename_i us
    rw [strs_eq h] at r
    obtain ⟨a, vs, rfl, l, rs⟩ := r.lst'
    rw [Reps.ofStrs rs] at l
    exact ⟨a, rfl, .inl l.sq⟩
  · rename_i us
    rw [strs_eq h] at r
    obtain ⟨a, vs, rfl, l, rs⟩ := r.tup'
    rw [Reps.ofStrs rs] at l
    exact ⟨a, rfl, .inr l.sq⟩
  · cases h
theorem l_sortSet {e : Expr} {p p2 pos2 : Pos} {f : DE} (hc : X.calm = true) (hg : Gl X "sorted") (hm : X.mg "sorted" = none) (hg2 : Gl X "set") (hm2 : X.mg "set" = none) (he : PE X e (tD X.K xs wx f)) (hs : starEach [e] X.env = (false, eval e X.env) :: starEach [] X.env := by rfl)
    (hs2 : starEach [.Call (.Name "set" p2) [e] [] pos2] X.env = (false, eval (.Call (.Name "set" p2) [e] [] pos2) X.env) :: starEach [] X.env := by rfl) :
    PE X (.Call (.Name "sorted" p) [.Call (.Name "set" p2) [e] [] pos2] [] pos) (tDL X.K xs wx (itE sortSet1 f)) := by
  have hset := pe_callTy (pos := pos2) (p := p2) (cr_setS hc) hg2 hm2 bt_set (pa_cons he pa_nil hs) (by decide) (by decide) hs rfl
  refine pe_imp (pe_callB (pos := pos) (p := p) (cr_sortS hc) hg hm bt_sorted (pa_cons hset pa_nil hs2) (by decide) (by decide) hs2 rfl) fun sg H Q h => ?_
  obtain ⟨G, io, st, env, ok, er, w⟩ := h
  refine ⟨G, io, st, env, ok, er, w.bind.impR fun st1 io1 H1 u ok1 e1 w1 v rv => ?_⟩
  obtain ⟨ws, hu, w2⟩ := w1.pure
  unfold sortSet1 at hu
  rw [Option.bind_eq_some_iff] at hu
  obtain ⟨ys, hy, hu⟩ := hu
  split at hu
  · rename_i hz
    cases hu
    obtain ⟨l, rfl, sq⟩ := txts_rep rv hy
    refine ⟨l, ys, rfl, sq, hz, fun q L hq nd hL => ?_⟩
    have pm := ded_perm nd hL
    refine ⟨q, L, rfl, upd_same, ?_, fun z zs hz2 pm2 hs2 => ?_⟩
    · rw [pm.length_eq]
      have := ded_len ys
      rw [sizeLine_val]; omega
    · have e : zs = sortS (dedS ys) := by rw [sort_unique hs2 pm2, sort_congr pm]
      subst e
      exact w2.hereS ok1 (same_upd hq) _ z (Reps.strs _) hz2
  · cases hu
theorem d_lenSet {e : Expr} {p p2 pos2 : Pos} {f : DE} (hc : X.calm = true) (hg : Gl X "len") (hm : X.mg "len" = none) (hg2 : Gl X "set") (hm2 : X.mg "set" = none) (he : PE X e (tD X.K xs wx f)) (hs : starEach [e] X.env = (false, eval e X.env) :: starEach [] X.env := by rfl)
    (hs2 : starEach [.Call (.Name "set" p2) [e] [] pos2] X.env = (false, eval (.Call (.Name "set" p2) [e] [] pos2) X.env) :: starEach [] X.env := by rfl) :
    PE X (.Call (.Name "len" p) [.Call (.Name "set" p2) [e] [] pos2] [] pos) (tD X.K xs wx (ap1 lenSet1 f)) := by
  have hset := pe_callTy (pos := pos2) (p := p2) (cr_setS hc) hg2 hm2 bt_set (pa_cons he pa_nil hs) (by decide) (by decide) hs rfl
  refine pe_imp (pe_callB (pos := pos) (p := p) cr_lenS hg hm bt_len (pa_cons hset pa_nil hs2) (by decide) (by decide) hs2 rfl) fun sg H Q h => ?_
  obtain ⟨G, io, st, env, ok, er, w⟩ := h
  refine ⟨G, io, st, env, ok, er, w.bind.impR fun st1 io1 H1 u ok1 e1 w1 v rv => ?_⟩
  obtain ⟨r, hu, w2⟩ := w1.pure
  unfold lenSet1 at hu
  rw [Option.bind_eq_some_iff] at hu
  obtain ⟨ys, hy, hu⟩ := hu
  split at hu
  · rename_i hz
    cases hu
    obtain ⟨l, rfl, sq⟩ := txts_rep rv hy
    refine ⟨l, ys, rfl, sq, hz, fun q L hq nd hL => ⟨q, L, rfl, upd_same, ?_⟩⟩
    rw [(ded_perm nd hL).length_eq]
    exact w2.hereS ok1 (same_upd hq) _ (rInt _)
  · cases hu
theorem l_sort {e : Expr} {p : Pos} {f : DE} (hg : Gl X "sorted") (hm : X.mg "sorted" = none) (he : PE X e (tD X.K xs wx f)) (hs : starEach [e] X.env = (false, eval e X.env) :: starEach [] X.env := by rfl) :
    PE X (.Call (.Name "sorted" p) [e] [] pos) (tDL X.K xs wx (itE sort1 f)) := by
  refine pe_imp (pe_callB (pos := pos) (p := p) cr_sortL hg hm bt_sorted (pa_cons he pa_nil hs) (by decide) (by decide) hs rfl) fun sg H Q h => ?_
  obtain ⟨G, io, st, env, ok, er, w⟩ := h
  refine ⟨G, io, st, env, ok, er, w.bind.impR fun st1 io1 H1 u ok1 e1 w1 v rv => ?_⟩
  obtain ⟨ws, hu, w2⟩ := w1.pure
  unfold sort1 at hu
  split at hu
  · rw [Option.bind_eq_some_iff] at hu
    obtain ⟨ys, hy, hu⟩ := hu
    cases hu
    obtain ⟨a, vs, rfl, l, rs⟩ := rv.lst'
    rw [strs_eq hy] at rs
    rw [Reps.ofStrs rs] at l
    refine ⟨a, ys, rfl, l.sq, fun z zs hz pm hso => ?_⟩
    have e : zs = sortS ys := sort_unique hso pm
    subst e
    exact w2.here ok1 _ z (Reps.strs _) hz
  · cases hu
end
end D
namespace D
open PySem L2
/-! ### a, b = x -/
def sUnp (t : Tg) (f : DE) : DS := fun env st => (f env st).out env fun u st1 => match t u with
  | none => .bad
  | some l => .nx (setE env l) st1
section
variable {X : Cx} {xs : XS} {wx : WX} {pos : Pos}
theorem s_unp {tg e : Expr} {f : DE} {t : Tg} (he : PE X e (tD X.K xs wx f)) (hg : PG X tg (gD X.K t)) (hm : (assignEach [tg] X.env).map (·.2) = [assign tg X.env] := by rfl)
    (hs : swapsWithSole [tg] e pos.line X.env = Pure.pure false := by rfl) (hw : swappedStores [tg] e X.env = Pure.pure none := by rfl) : PS X (.Assign [tg] e pos) (tDS X.K xs wx (sUnp t f)) := by
  refine ⟨fun pins s sg H D I h => ?_⟩
  obtain ⟨F, io, st, env, fr, w⟩ := h
  refine wpAny_Assign_stores (thn (he.run pins s sg H (fun v H1 => gD X.K t v sg H1 fun sg2 H2 => D.nx sg2 H2) I ?_) fun v s1 ⟨x, H1, I1, r1, q1⟩ => ?_) hs hw
  · refine ⟨Gs F env sg, io, st, env, fr.ok, fr.er, (WantsS.expr fr w).impR fun st1 io1 H1 u ok1 e1 z v rv => ?_⟩
    obtain ⟨z1, z2⟩ := z
    cases ht : t u with
    | none => rw [ht] at z2; exact z2.elim
    | some l =>
      rw [ht] at z2
      refine ⟨Gs F env sg, io1, u, l, rv, ht, fun vs rvs => ?_⟩
      obtain ⟨f3, e3⟩ := z1.setAll l vs rvs
      exact z2 io1 _ H1 f3 e3
  · rw [hm]
    show wpAny _ _ (assign tg X.env v) _ _ _
    exact thn (hg.run pins s1 sg H1 x v _ I1 r1 q1) fun _ s2 ⟨sg2, H2, I2, q2⟩ => ⟨sg2, H2, I2, q2⟩
end
@[simp] theorem sUnp_ap (t : Tg) (f : DE) (env : Env) (st : Store) : sUnp t f env st = (f env st).out env fun u st1 => match t u with
  | none => .bad
  | some l => .nx (setE env l) st1 := (rfl)
end D
namespace D
open PySem L2
/-! ### names out of a tuple or a list -/
def tgA (is : List Nat) : Tg := fun u => match u with
  | .tup us => if us.length = is.length then some (is.zip us) else none
  | .lst us => if us.length = is.length then some (is.zip us) else none
  | _ => none
section
variable {X : Cx} {xs : XS} {wx : WX} {pos : Pos}
theorem pg_or {tg : Expr} {t1 t2 : TG} (h1 : PG X tg t1) (h2 : PG X tg t2) : PG X tg (fun v sg H Q => t1 v sg H Q ∨ t2 v sg H Q) :=
  ⟨fun pins s sg H v u Q I r h => h.elim (fun z => h1.run pins s sg H v u Q I r z) fun z => h2.run pins s sg H v u Q I r z⟩
theorem g_any {es : List Expr} {k : Nat} {is : List Nat} (hc : X.calm = true) (hN : X.N.Nodup) (h : GNames X es is) : PG X (.Tuple es k pos) (gD X.K (tgA is)) := by
  obtain ⟨h1, h2, h3⟩ := GNames.pgs hN h
  refine pg_imp (pg_or (pg_tup hc h1 h2 h3) (pg_lst hc h1 h2 h3)) fun v sg H Q q => ?_
  obtain ⟨G, io, u, l, r, e, q⟩ := q
  cases u with
  | tup us =>
    simp only [tgA] at e
    split at e
    · rename_i hl
      cases e
      obtain ⟨a, vs, rfl, lt, rs⟩ := r.tup'
      have hv : vs.length = is.length := by rw [← rs.length]; exact hl
      rw [zip_fst _ _ hl, zip_snd _ _ hl] at q
      exact .inl ⟨a, vs, rfl, lt.sq, hv, gSet_of is vs sg hv (q vs rs)⟩
    · cases e
  | lst us =>
    simp only [tgA] at e
    split at e
    · rename_i hl
      cases e
      obtain ⟨a, vs, rfl, lt, rs⟩ := r.lst'
      have hv : vs.length = is.length := by rw [← rs.length]; exact hl
      rw [zip_fst _ _ hl, zip_snd _ _ hl] at q
      exact .inr ⟨a, vs, rfl, lt.sq, hv, gSet_of is vs sg hv (q vs rs)⟩
    · cases e
  | _ => cases e
end
/-! ### what the operators do, as rewriting -/
@[simp] theorem add_int (i j : Int) : add2 (.int i) (.int j) = some (.int (i + j)) := (rfl)
@[simp] theorem sub_int (i j : Int) : sub2 (.int i) (.int j) = some (.int (i - j)) := (rfl)
@[simp] theorem lt_int (i j : Int) : lt2 (.int i) (.int j) = some (.bl (decide (i < j))) := (rfl)
@[simp] theorem le_int (i j : Int) : le2 (.int i) (.int j) = some (.bl (decide (i ≤ j))) := (rfl)
@[simp] theorem gt_int (i j : Int) : gt2 (.int i) (.int j) = some (.bl (decide (j < i))) := (rfl)
@[simp] theorem ge_int (i j : Int) : ge2 (.int i) (.int j) = some (.bl (decide (j ≤ i))) := (rfl)
@[simp] theorem eq_int (i j : Int) : eq2 (.int i) (.int j) = some (.bl (decide (i = j))) := (rfl)
@[simp] theorem ne_int (i j : Int) : ne2 (.int i) (.int j) = some (.bl (!decide (i = j))) := (rfl)
@[simp] theorem eq_str (i j : Str) : eq2 (.str i) (.str j) = some (.bl (decide (i = j))) := (rfl)
@[simp] theorem ne_str (i j : Str) : ne2 (.str i) (.str j) = some (.bl (!decide (i = j))) := (rfl)
@[simp] theorem eq_bl (i j : Bool) : eq2 (.bl i) (.bl j) = some (.bl (decide (i = j))) := (rfl)
@[simp] theorem ne_bl (i j : Bool) : ne2 (.bl i) (.bl j) = some (.bl (!decide (i = j))) := (rfl)
@[simp] theorem is_bl (i j : Bool) : is2 (.bl i) (.bl j) = some (.bl (decide (i = j))) := (rfl)
@[simp] theorem isnot_bl (i j : Bool) : isnot2 (.bl i) (.bl j) = some (.bl (!decide (i = j))) := (rfl)
@[simp] theorem lt_str (i j : Str) : lt2 (.str i) (.str j) = some (.bl (ltC i j)) := (rfl)
@[simp] theorem le_str (i j : Str) : le2 (.str i) (.str j) = some (.bl (!ltC j i)) := (rfl)
@[simp] theorem neg_int (i : Int) : neg1 (.int i) = some (.int (-i)) := (rfl)
@[simp] theorem len_lst (us : List U) : lenN [.lst us] = some (.int us.length) := (rfl)
@[simp] theorem len_tup (us : List U) : lenN [.tup us] = some (.int us.length) := (rfl)
@[simp] theorem len_scr (us : List Int) : lenN [.scr us] = some (.int us.length) := (rfl)
@[simp] theorem tup_lst (us : List U) : tupN [.lst us] = some (.tup us) := (rfl)
@[simp] theorem tup_tup (us : List U) : tupN [.tup us] = some (.tup us) := (rfl)
@[simp] theorem items_lst (us : List U) : items (.lst us) = some us := (rfl)
@[simp] theorem items_tup (us : List U) : items (.tup us) = some us := (rfl)
@[simp] theorem max_int (i j : Int) : maxN [.int i, .int j] = some (.int (if j > i then j else i)) := (rfl)
@[simp] theorem min_int (i j : Int) : minN [.int i, .int j] = some (.int (if j < i then j else i)) := (rfl)
@[simp] theorem abs_int (i : Int) : absN [.int i] = some (.int (if i < 0 then -i else i)) := (rfl)
theorem mod_pos {i j : Int} (h : 0 < j) : mod2 (.int i) (.int j) = some (.int (i % j)) := by simp [mod2, h]
theorem fdiv_pos {i j : Int} (h : 0 < j) (h2 : j < 1073741824) : fdiv2 (.int i) (.int j) = some (.int (i / j)) := by simp [fdiv2, h, h2]
end D
namespace D
open PySem L2
/-! ### tables of the module: written dicts with text keys, of written data -/
mutual
def kRep (K : PySem.W.Frag) : U → Value → Bool
  | .non, .none => true
  | .bl b, .bool c => b == c
  | .int i, .int j _ => decide (i = j)
  | .str x, .str y _ => decide (x = y)
  | .tup us, .ref a => (match K.lookup a with
      | some o => (match o.cls, o.data with
        | .type n, .seq its _ => n == "tuple" && decide (its.size ≤ sizeLine) && kReps K us its.toList
        | _, _ => false)
      | none => false)
  | _, _ => false
def kReps (K : PySem.W.Frag) : List U → List Value → Bool
  | [], [] => true
  | u :: us, v :: vs => kRep K u v && kReps K us vs
  | _, _ => false
end
mutual
theorem kRep_ok {K : PySem.W.Frag} : ∀ (u : U) (v : Value), kRep K u v = true → ∃ x : V, RelV x v ∧ ∀ W io H, Rep K W io H u x
  | .non, v, h => by
    unfold kRep at h
    cases v with
    | none => exact ⟨.non, rfl, fun _ _ _ => rNon⟩
    | _ => cases h
  | .bl b, v, h => by
    unfold kRep at h
    cases v <;> first | cases h | skip
    rename_i c
    have e : b = c := by simpa using h
    exact ⟨.bl b, by rw [e]; rfl, fun _ _ _ => rBl _⟩
  | .int i, v, h => by
    unfold kRep at h
    cases v <;> first | cases h | skip
    exact ⟨.int i, ⟨_, by rw [of_decide_eq_true h]⟩, fun _ _ _ => rInt _⟩
  | .str i, v, h => by
    unfold kRep at h
    cases v <;> first | cases h | skip
    exact ⟨.str i, ⟨_, by rw [of_decide_eq_true h]⟩, fun _ _ _ => rStr _⟩
  | .tup us, v, h => by
    unfold kRep at h
    cases v with
    | ref a =>
      dsimp only at h
      split at h
      · rename_i o ho
        split at h
        · rename_i n its k hc hd
          simp only [Bool.and_eq_true, decide_eq_true_eq] at h
          obtain ⟨⟨h1, h2⟩, h3⟩ := h
          obtain ⟨xs, hv, hr⟩ := kReps_ok us its.toList h3
          have hn : n = "tuple" := eq_of_beq h1
          exact ⟨.ref a, rfl, fun W io H => rTup (.inr ⟨o, its, k, ho, by rw [hc, hn], hd, h2, hv⟩) (hr W io H)⟩
        · cases h
      · cases h
    | _ => cases h
  | .lst _, v, h => by unfold kRep at h; cases v <;> cases h
  | .dct _ _, v, h => by unfold kRep at h; cases v <;> cases h
  | .ref _, v, h => by unfold kRep at h; cases v <;> cases h
  | .ty _, v, h => by unfold kRep at h; cases v <;> cases h
  | .scr _, v, h => by unfold kRep at h; cases v <;> cases h
theorem kReps_ok {K : PySem.W.Frag} : ∀ (us : List U) (vs : List Value), kReps K us vs = true → ∃ xs : List V, Vals xs vs ∧ ∀ W io H, Reps K W io H us xs
  | [], [], _ => ⟨[], .nil, fun _ _ _ => .nil⟩
  | [], _ :: _, h => by unfold kReps at h; cases h
  | _ :: _, [], h => by unfold kReps at h; cases h
  | u :: us, v :: vs, h => by
    unfold kReps at h
    simp only [Bool.and_eq_true] at h
    obtain ⟨x, r, a⟩ := kRep_ok u v h.1
    obtain ⟨xs, rs, as⟩ := kReps_ok us vs h.2
    exact ⟨x :: xs, .cons r rs, fun W io H => .cons (a W io H) (as W io H)⟩
end
def isKey (x : Str) (v : Value) : Bool := match v with
  | .str y _ => decide (x = y)
  | _ => false
def kEnts (K : PySem.W.Frag) : List (Str × U) → List DictEntry → Bool
  | [], [] => true
  | p :: r, e :: s => isKey p.1 e.key && kRep K p.2 e.val && kEnts K r s
  | _, _ => false
def tabAt (tab : List (Str × U)) (x : Str) : Option U := (tab.find? fun p => decide (p.1 = x)).map (·.2)
theorem ents_find {K : PySem.W.Frag} {z : Str} : ∀ (tab : List (Str × U)) (es : List DictEntry), kEnts K tab es = true →
    es.any (·.refKey) = false ∧ (match tabAt tab z with
      | some u => ∃ e, es.find? (·.key.isStr z) = some e ∧ kRep K u e.val = true
      | none => es.find? (·.key.isStr z) = none)
  | [], [], _ => ⟨rfl, rfl⟩
  | [], _ :: _, h => by unfold kEnts at h; cases h
  | _ :: _, [], h => by unfold kEnts at h; cases h
  | p :: r, e :: s, h => by
    unfold kEnts at h
    simp only [Bool.and_eq_true] at h
    obtain ⟨⟨h1, h2⟩, h3⟩ := h
    obtain ⟨i1, i2⟩ := ents_find (z := z) r s h3
    unfold isKey at h1
    split at h1
    · rename_i y t hy
      have hp : p.1 = y := of_decide_eq_true h1
      have hk : e.refKey = false := by unfold DictEntry.refKey; rw [hy]
      refine ⟨by simp [hk]; simpa using i1, ?_⟩
      unfold tabAt at i2 ⊢
      have hs : e.key.isStr z = decide (p.1 = z) := by
        rw [hy, hp]
        show (y == z) = _
        by_cases q : y = z
        · subst q; simp
        · simp [q]
      by_cases hz : p.1 = z
      · rw [List.find?_cons_of_pos (by simpa using hz)]
        exact ⟨e, by rw [List.find?_cons_of_pos (by rw [hs]; simpa using hz)], h2⟩
      · rw [List.find?_cons_of_neg (by simpa using hz)]
        rw [List.find?_cons_of_neg (by rw [hs]; simpa using hz)]
        exact i2
    · cases h1
def KTab (K : PySem.W.Frag) (w : World) (mg : Str → Option Value) (x : Str) (tab : List (Str × U)) : Prop :=
  ∃ d es n, mg x = some (.ref d) ∧ KDict K w d es n ∧ kEnts K tab es.toList = true
theorem kd_ns {K : PySem.W.Frag} {w : World} {d : Addr} {es : Array DictEntry} {n : Nat} {tab : List (Str × U)} (D : KDict K w d es n) (h : kEnts K tab es.toList = true) (z : Str) :
    match tabAt tab z with
      | some u => ∃ v x, PySem.W.nsIn K d z = some (some v) ∧ RelV x v ∧ ∀ W io H, Rep K W io H u x
      | none => PySem.W.nsIn K d z = some none := by
  obtain ⟨h1, h2⟩ := ents_find (z := z) tab es.toList h
  unfold PySem.W.nsIn
  rw [D.at_]
  dsimp only
  cases q : tabAt tab z with
  | some u =>
    rw [q] at h2
    obtain ⟨e, e1, e2⟩ := h2
    obtain ⟨x, r, a⟩ := kRep_ok u e.val e2
    exact ⟨e.val, x, by rw [e1], r, a⟩
  | none =>
    rw [q] at h2
    show _ = some none
    dsimp only at h2
    rw [h2, if_neg (by rw [h1]; exact Bool.false_ne_true)]
def tabHas (tab : List (Str × U)) : U → Option U
  | .str x => some (.bl (tabAt tab x).isSome)
  | _ => none
def tabNot (tab : List (Str × U)) : U → Option U
  | .str x => some (.bl (!(tabAt tab x).isSome))
  | _ => none
def tabGet (tab : List (Str × U)) : U → Option U
  | .str x => tabAt tab x
  | _ => none
section
variable {X : Cx} {xs : XS} {wx : WX} {pos p : Pos} {x : Str} {tab : List (Str × U)} {a : Expr} {f : DE}
theorem ap1_read {g : U → Option U} {sg : L2.St} {H : Hp} {Q : VK} (h : tD X.K xs wx (ap1 g f) sg H Q) : tD X.K xs wx f sg H (fun v H1 => P1 X.K g v H1 Q) := by
  obtain ⟨G, io, st, env, ok, er, w⟩ := h
  refine ⟨G, io, st, env, ok, er, w.bind.impR fun st1 io1 H1 u ok1 e1 w1 v rv => ?_⟩
  obtain ⟨r, hr, w2⟩ := w1.pure
  exact ⟨G, io1, st1, u, r, ok1, rv, hr, fun v' H' s q => w2.hereS ok1 s v' q⟩
theorem tD_imp {sg : L2.St} {H : Hp} {Q Q' : VK} (h : tD X.K xs wx f sg H Q) (i : ∀ v H1, Q v H1 → Q' v H1) : tD X.K xs wx f sg H Q' := by
  obtain ⟨G, io, st, env, ok, er, w⟩ := h
  exact ⟨G, io, st, env, ok, er, w.impR fun st1 io1 H1 u ok1 e1 w1 v rv => i v H1 (w1 v rv)⟩
theorem in_read {d : Addr} {es : Array DictEntry} {n : Nat} {v : V} {H : Hp} {Q : VK} (D : KDict X.K X.w d es n) (hk : kEnts X.K tab es.toList = true) (h : P1 X.K (tabHas tab) v H Q) :
    ∃ (z : Str) (r : Option Value), v = .str z ∧ (V.ref d) = .ref d ∧ PySem.W.nsIn X.K d z = some r ∧ Q (.bl r.isSome) H := by
  obtain ⟨G, io, st, u1, u, ok, rv, hu, fin⟩ := h
  unfold tabHas at hu
  split at hu
  · rename_i z
    cases hu
    have q := kd_ns D hk z
    have f := fin (.bl (tabAt tab z).isSome) H (fun _ _ e => e) (rBl _)
    cases e : tabAt tab z with
    | some u =>
      rw [e] at q f
      obtain ⟨v', x', q1, _, _⟩ := q
      exact ⟨z, some v', rv.str', rfl, q1, f⟩
    | none =>
      rw [e] at q f
      exact ⟨z, none, rv.str', rfl, q, f⟩
  · cases hu
theorem nin_read {d : Addr} {es : Array DictEntry} {n : Nat} {v : V} {H : Hp} {Q : VK} (D : KDict X.K X.w d es n) (hk : kEnts X.K tab es.toList = true) (h : P1 X.K (tabNot tab) v H Q) :
    ∃ (z : Str) (r : Option Value), v = .str z ∧ (V.ref d) = .ref d ∧ PySem.W.nsIn X.K d z = some r ∧ Q (.bl (!r.isSome)) H := by
  obtain ⟨G, io, st, u1, u, ok, rv, hu, fin⟩ := h
  unfold tabNot at hu
  split at hu
  · rename_i z
    cases hu
    have q := kd_ns D hk z
    have f := fin (.bl (!(tabAt tab z).isSome)) H (fun _ _ e => e) (rBl _)
    cases e : tabAt tab z with
    | some u =>
      rw [e] at q f
      obtain ⟨v', x', q1, _, _⟩ := q
      exact ⟨z, some v', rv.str', rfl, q1, f⟩
    | none =>
      rw [e] at q f
      exact ⟨z, none, rv.str', rfl, q, f⟩
  · cases hu
theorem d_tabIn (T : KTab X.K X.w X.mg x tab) (hg : Gl X x) (ha : PE X a (tD X.K xs wx f)) (hd : (x == ("__debug__" : Str)) = false := by decide) : PE X (.Compare a [.In] [.Name x p] pos) (tD X.K xs wx (ap1 (tabHas tab) f)) := by
  obtain ⟨d, es, n, hm, D, hk⟩ := T
  exact pe_imp (pe_cmpR (op_in_kd D) ha (pe_glob (v := .ref d) hg hm rfl hd) (by first | exact nomark _ | rfl)) fun sg H Q h => tD_imp (ap1_read h) fun v H1 q => in_read D hk q
theorem d_tabNin (T : KTab X.K X.w X.mg x tab) (hg : Gl X x) (ha : PE X a (tD X.K xs wx f)) (hd : (x == ("__debug__" : Str)) = false := by decide) : PE X (.Compare a [.NotIn] [.Name x p] pos) (tD X.K xs wx (ap1 (tabNot tab) f)) := by
  obtain ⟨d, es, n, hm, D, hk⟩ := T
  exact pe_imp (pe_cmpR (op_notIn_kd D) ha (pe_glob (v := .ref d) hg hm rfl hd) (by first | exact nomark _ | rfl)) fun sg H Q h => tD_imp (ap1_read h) fun v H1 q => nin_read D hk q
theorem t_tabIn (T : KTab X.K X.w X.mg x tab) (hg : Gl X x) (ha : PE X a (tD X.K xs wx f)) (hd : (x == ("__debug__" : Str)) = false := by decide) : PT X (.Compare a [.In] [.Name x p] pos) (tDT X.K xs wx (tst (ap1 (tabHas tab) f))) := by
  obtain ⟨d, es, n, hm, D, hk⟩ := T
  exact pt_imp (pt_cmpR (op_in_kd D) ha (pe_glob (v := .ref d) hg hm rfl hd) (by first | exact nomark _ | rfl)) fun sg H Q h => tD_imp (ap1_read (tst_read (t := tVar 0) h)) fun v H1 q => in_read D hk q
theorem t_tabNin (T : KTab X.K X.w X.mg x tab) (hg : Gl X x) (ha : PE X a (tD X.K xs wx f)) (hd : (x == ("__debug__" : Str)) = false := by decide) : PT X (.Compare a [.NotIn] [.Name x p] pos) (tDT X.K xs wx (tst (ap1 (tabNot tab) f))) := by
  obtain ⟨d, es, n, hm, D, hk⟩ := T
  exact pt_imp (pt_cmpR (op_notIn_kd D) ha (pe_glob (v := .ref d) hg hm rfl hd) (by first | exact nomark _ | rfl)) fun sg H Q h => tD_imp (ap1_read (tst_read (t := tVar 0) h)) fun v H1 q => nin_read D hk q
theorem d_tabIx (T : KTab X.K X.w X.mg x tab) (hg : Gl X x) (ha : PE X a (tD X.K xs wx f)) (hs : PlainIx a) (hd : (x == ("__debug__" : Str)) = false := by decide) : PE X (.Subscript (.Name x p) a pos) (tD X.K xs wx (ap1 (tabGet tab) f)) := by
  obtain ⟨d, es, n, hm, D, hk⟩ := T
  refine pe_imp (pe_ix ix_kdict (pe_glob (v := .ref d) hg hm rfl hd) ha hs) fun sg H Q h => ?_
  refine tD_imp (ap1_read h) fun v H1 q => ?_
  obtain ⟨G, io, st, u1, u, ok, rv, hu, fin⟩ := q
  unfold tabGet at hu
  split at hu
  · rename_i z
    have q := kd_ns D hk z
    rw [hu] at q
    obtain ⟨v', x', q1, q2, q3⟩ := q
    exact ⟨d, z, x', rfl, rv.str', ⟨es, n, v', D.at_, D.lit, q1, q2⟩, fin x' H1 (fun _ _ e => e) (q3 _ _ _)⟩
  · cases hu
end
end D
namespace D
open PySem L2
/-! ### what is never come to -/
def sBad : DS := fun _ _ => .bad
def eBad : DE := fun _ _ => .bad
section
variable {X : Cx} {xs : XS} {wx : WX}
theorem s_bad {s : Stmt} : PS X s (tDS X.K xs wx sBad) := ⟨fun pins s sg H D I h => by
  obtain ⟨F, io, st, env, f, w⟩ := h
  exact w.elim⟩
theorem d_bad {e : Expr} : PE X e (tD X.K xs wx eBad) := ⟨fun pins s sg H Q I h => by
  obtain ⟨G, io, st, env, ok, er, w⟩ := h
  exact w.elim⟩
end
/-! ### range(a, b, c) -/
def rng3 : List U → Option (List U)
  | [.int i, .int j, .int c] => if c ≠ 0 ∧ c.natAbs < 1073741824 ∧ Builtin.Range.small i j c = true ∧ 0 ≤ Builtin.Range.rangeSize i j c then some ((List.range (Builtin.Range.rangeSize i j c).toNat).map fun (k : Nat) => U.int (i + (k : Nat) * c)) else none
  | _ => none
section
variable {K : PySem.W.Frag} {G : Addr → Prop} {io : List Addr} {H : Hp}
theorem wk_rangeC (lo c : Int) (n : Nat) : Wk K G (Itc lo c n) io H ((List.range n).map fun i => U.int (lo + (i : Nat) * c)) := by
  refine ⟨fun i G' io' st' H' ok m hi => ?_, fun i G' io' st' H' ok m hi => ?_⟩
  · have hi' : i < n := by simpa using hi
    refine ⟨hi', fun v H'' y => ?_⟩
    obtain ⟨rfl, rfl⟩ := y
    refine ⟨Same.refl _, .int (lo + i * c), ?_, by unfold Rep; rfl⟩
    simp [hi']
  · show n ≤ i
    simpa using hi
end
section
variable {X : Cx} {xs : XS} {wx : WX} {pos : Pos} {tg : Expr}
theorem i_range3 {a b c : Expr} {f : DA} {p : Pos} (hg : Gl X "range") (hm : X.mg "range" = none) (ha : PA X [a, b, c] (tDA X.K xs wx f)) (hs : starEach [a, b, c] X.env = (false, eval a X.env) :: starEach [b, c] X.env := by rfl) (hpl : (backTo pos (starEach [b, c] X.env)).any (·.1) = false := by rfl) :
    PI X tg (.Call (.Name "range" p) [a, b, c] [] pos) (tI X.K xs wx (itA rng3 f)) :=
  pi_imp (pi_range3 hg hm ha hs hpl) fun sg H R q => by
    obtain ⟨G, io, st, env, ok, er, w⟩ := q
    refine ⟨G, io, st, env, ok, er, w.bind.impR fun st1 io1 H1 us ok1 e1 w1 vs rvs => ?_⟩
    obtain ⟨ws, hu, w2⟩ := w1.pure
    unfold rng3 at hu
    split at hu
    · rename_i i j c
      split at hu
      · rename_i hj
        cases hu
        have e : vs = [V.int i, V.int j, V.int c] := Reps.ofInts (ns := [i, j, c]) rvs
        subst e
        exact ⟨i, j, c, _, rfl, ⟨hj.1, hj.2.1, hj.2.2.1, by have := hj.2.2.2; omega⟩, w2.here ok1 _ (wk_rangeC _ _ _)⟩
      · cases hu
    · cases hu
end
/-! ### extend -/
theorem list_extend_tup (l : Addr) (items : Array Value) (n : Nat) (b : Addr) (items2 : Array Value) (n2 : Nat) (dd : Option Addr) (sl : Array (Option Value)) (hs0 : ¬(!items.isEmpty && Builtin.List.listTooLong (items.size + items2.size)) = true) (hs1 : items.size ≤ sizeLine) (hs2 : items.size + items2.size ≤ sizeLine + 1) :
    Meets (Builtin.«list.extend» ⟨[.ref l, .ref b], []⟩) (fun _ R s => s.heap.get? l = some { cls := .type "list", dict := none, data := .seq items n, slots := #[] } ∧ s.heap.get? b = some { cls := .type "tuple", dict := dd, data := .seq items2 n2, slots := sl } ∧ R (.ok (.ret Value.none)) { s with heap := s.heap.update l (Obj.mapSeq fun x => x ++ items2), toks := s.toks }) :=
  .of_wp fun prog w A R s h => by
    obtain ⟨hp, g, d, tk, os⟩ := s; obtain ⟨hl, hb, h⟩ := h; have f1 := AutoSeq1.idx_int; have f2 := AutoSeq1.sub_tuple_tuple; have f3 := AutoSeq1.sub_list_list; have f4 := AutoSeq1.sub_tuple_list; have f5 := AutoSeq1.sub_list_tuple;
    have hz' : (items ++ items2).size ≤ sizeLine + 1 := by rw [Array.size_append]; exact hs2
    wp_walk using (wpAny_updateSeq hl rfl (hz := hs1) (_hz' := hz')), AutoSeq1.wpAny_loadPart' hl, AutoSeq1.wpAny_loadPart' hb; exact ⟨_, rfl, h⟩
def rExtT (K : PySem.W.Frag) : V → List V → Hp → VK → Prop := fun x vs H Q => ∃ l b xs zs, x = .ref l ∧ vs = [.ref b] ∧ H l = some (.lst xs) ∧ SqT K H b zs ∧ xs.length + zs.length ≤ sizeLine ∧ Q .non (upd H l (.lst (xs ++ zs)))
section
variable {X : Cx}
theorem mt_extT : MtM X "list.extend" (rExtT X.K) := by
  intro pins s σ H x vs v us Q I rx rv h
  obtain ⟨l, b, xs, zs, rfl, rfl, hH, hB, hz, q⟩ := h
  cases rx
  obtain ⟨u, rfl, ru⟩ := rv.one
  cases ru
  obtain ⟨z, its, n, r, hl, e⟩ := I.lstM hH
  obtain ⟨its2, r2, ⟨⟨cls, dd, data, sl⟩, e2, hcls, n2, hdata⟩, z2⟩ := I.tuple hB
  simp only at hcls hdata
  subst hcls; subst hdata
  have l2 := r2.length
  have hsz : its.toArray.size + its2.toArray.size ≤ sizeLine := by rw [List.size_toArray, List.size_toArray]; omega
  have hlong : ¬ (!its.toArray.isEmpty && Builtin.List.listTooLong (its.toArray.size + its2.toArray.size)) = true := by
    rw [notLongL hsz, Bool.and_false]
    exact Bool.false_ne_true
  refine call_meets F.slot_list_extend ⟨_, e, rfl⟩ F.entry_list_extend (F.args_list_extend_2 _ _)
    (list_extend_tup l its.toArray n b its2.toArray n2 dd sl hlong (by rw [List.size_toArray]; omega) (by omega)) ⟨e, e2, ?_⟩
  refine ⟨.non, _, I.lset (its' := its ++ its2) hH e (by simp) (r.append r2) ?_, rfl, q⟩
  rw [List.length_append]
  omega
theorem mt_extA : MtM X "list.extend" (fun x vs H Q => rExtend x vs H Q ∨ rExtT X.K x vs H Q) := by
  intro pins s σ H x vs v us Q I rx rv h
  exact h.elim (mt_extend pins s σ H x vs v us Q I rx rv) (mt_extT pins s σ H x vs v us Q I rx rv)
variable {xs : XS} {wx : WX} {pos : Pos}
def seqU : U → Option (List U)
  | .lst us => some us
  | .tup us => some us
  | _ => none
def sExt (i : Nat) (f : DE) : DS := fun env st => match env[i]? with
  | some (.own us) => (f env st).out env fun u st1 => match seqU u with
    | some ws => if us.length + ws.length ≤ sizeLine then .nx (env.set i (.own (us ++ ws))) st1 else .bad
    | none => .bad
  | _ => .bad
theorem s_ext {i : Nat} {x : Str} {e : Expr} {f : DE} {p1 p2 : Pos} (hN : X.N[i]? = some x) (hv : Vis X.env.scope x) (he : PE X e (tD X.K xs wx f)) (hd : (x == ("__debug__" : Str)) = false := by decide) (hcd : (x == ("__classdict__" : Str)) = false := by decide)
    (hfew : ((backTo pos (starEach [e] X.env)).all (fun x => !x.1) && (backToKw pos (keywordEach [] X.env)).all (fun x => x.1.isSome) && decide ([e].length + ([] : List Keyword).length + (if ([] : List Keyword).isEmpty then 0 else 1) < 30)) = true := by rfl)
    (hline : (p1.endLine == pos.line) = true := by rfl) (hs : starEach (e :: []) X.env = (false, eval e X.env) :: starEach [] X.env := by rfl) (hplain : (backTo pos (starEach [] X.env)).any (·.1) = false := by rfl)
    (hsw : swapsWith (.Call (.Attribute (.Name x p2) "extend" p1) [e] [] pos) none pos.line X.env = Pure.pure false := by rfl) {pos2 : Pos} :
    PS X (.Expr (.Call (.Attribute (.Name x p2) "extend" p1) [e] [] pos) pos2) (tDS X.K xs wx (sExt i f)) := by
  refine ps_imp (ps_expr (pe_bm PySem.F.plainAttrs_list PySem.F.slot_list_extend PySem.F.type_list_extend mt_extA (pe_var (i := i) hN hv hd hcd) (pa_cons he pa_nil hs) (by rfl) hfew hline hs hplain) hsw) fun D sg H h => ?_
  obtain ⟨F, io, st, env, fr, w⟩ := h
  unfold sExt at w
  split at w
  · rename_i us q
    obtain ⟨a, vs, e1, e2, r⟩ := fr.slot q
    refine ⟨.ref a, e1, .inl ⟨rfl, vs, .inl (.inl e2)⟩, ?_⟩
    refine ⟨Gs F env sg, io, st, env, fr.ok, fr.er, (WantsS.expr fr w).impR fun st1 io1 H1 u ok1 ex1 z v rv => ?_⟩
    have z2 := z.2
    obtain ⟨a', vs', e1', e2', r'⟩ := z.1.slot q
    rw [e1] at e1'; cases e1'
    split at z2
    · rename_i ws hws
      split at z2
      · rename_i hl
        cases u with
        | lst us' =>
          cases hws
          obtain ⟨b, zs, rfl, lb, rb⟩ := rv.lst'
          refine .inl ⟨a, b, vs', zs, rfl, rfl, e2', lb.1, by rw [← r'.length, ← rb.length]; exact hl, ?_⟩
          have y := z.1.turnOwn q e1 (r'.append rb)
          exact z2 io1 _ _ y.1 y.2
        | tup us' =>
          cases hws
          obtain ⟨b, zs, rfl, lb, rb⟩ := rv.tup'
          refine .inr ⟨a, b, vs', zs, rfl, rfl, e2', lb.sq, by rw [← r'.length, ← rb.length]; exact hl, ?_⟩
          have y := z.1.turnOwn q e1 (r'.append rb)
          exact z2 io1 _ _ y.1 y.2
        | _ => cases hws
      · exact z2.elim
    · exact z2.elim
  · exact w.elim
theorem sext (i : Nat) {x : Str} {e : Expr} {f : DE} {p1 p2 : Pos} (he : PE X e (tD X.K xs wx f)) (hN : X.N[i]? = some x := by rfl) (hv : Vis X.env.scope x := by first | exact Or.inl rfl | exact Or.inr (Or.inl rfl) | exact Or.inr (Or.inr rfl)) (hd : (x == ("__debug__" : Str)) = false := by decide) (hcd : (x == ("__classdict__" : Str)) = false := by decide)
    (hfew : ((backTo pos (starEach [e] X.env)).all (fun x => !x.1) && (backToKw pos (keywordEach [] X.env)).all (fun x => x.1.isSome) && decide ([e].length + ([] : List Keyword).length + (if ([] : List Keyword).isEmpty then 0 else 1) < 30)) = true := by rfl)
    (hline : (p1.endLine == pos.line) = true := by rfl) (hs : starEach (e :: []) X.env = (false, eval e X.env) :: starEach [] X.env := by rfl) (hplain : (backTo pos (starEach [] X.env)).any (·.1) = false := by rfl)
    (hsw : swapsWith (.Call (.Attribute (.Name x p2) "extend" p1) [e] [] pos) none pos.line X.env = Pure.pure false := by rfl) {pos2 : Pos} :
    PS X (.Expr (.Call (.Attribute (.Name x p2) "extend" p1) [e] [] pos) pos2) (tDS X.K xs wx (sExt i f)) := s_ext hN hv he hd hcd hfew hline hs hplain hsw
end
@[simp] theorem sExt_ap (i : Nat) (f : DE) (env : Env) (st : Store) : sExt i f env st = match env[i]? with
  | some (.own us) => (f env st).out env fun u st1 => match seqU u with
    | some ws => if us.length + ws.length ≤ sizeLine then .nx (env.set i (.own (us ++ ws))) st1 else .bad
    | none => .bad
  | _ => .bad := (rfl)
@[simp] theorem seqU_lst (us : List U) : seqU (.lst us) = some us := (rfl)
@[simp] theorem seqU_tup (us : List U) : seqU (.tup us) = some us := (rfl)
end D
namespace D
open PySem L2
/-! ### xs + ys as a new list -/
def catU : U → U → Option (List U)
  | .lst a, .lst b => if a.length + b.length ≤ sizeLine then some (a ++ b) else none
  | _, _ => none
def catL (f g : DE) : DL := fun env st => (f env st).bind fun u st1 => (g env st1).bind fun v st2 => Rs.of (catU u v) st2
section
variable {X : Cx} {xs : XS} {wx : WX} {pos : Pos}
theorem l_cat {a b : Expr} {f g : DE} (ha : PE X a (tD X.K xs wx f)) (hb : PE X b (tD X.K xs wx g)) : PE X (.BinOp a .Add b pos) (tDL X.K xs wx (catL f g)) :=
  pe_imp (pe_op op_cat ha hb) fun sg H Q q => by
    obtain ⟨G, io, st, env, ok, er, w⟩ := q
    refine ⟨G, io, st, env, ok, er, w.bind.impR fun st1 io1 H1 u ok1 e1 w1 v rv => ?_⟩
    refine ⟨G, io1, st1, env, ok1, er.ext ok.dj e1, w1.bind.impR fun st2 io2 H2 u2 ok2 e2 w2 v2 rv2 => ?_⟩
    obtain ⟨ws, hu, w3⟩ := w2.pure
    unfold catU at hu
    split at hu
    · rename_i as bs
      split at hu
      · rename_i hz
        cases hu
        obtain ⟨p, ys, rfl, l, r⟩ := (rv.ext e2).lst'
        obtain ⟨p', ys', rfl, l', r'⟩ := rv2.lst'
        refine ⟨p, p', ys, ys', rfl, rfl, l.1, l'.1, by rw [← r.length, ← r'.length]; exact hz, fun q hq => ?_⟩
        exact w3.here ok2 _ q (r.append r') hq
      · cases hu
    · cases hu
end
@[simp] theorem catL_ap (f g : DE) (env : Env) (st : Store) : catL f g env st = (f env st).bind fun u st1 => (g env st1).bind fun v st2 => Rs.of (catU u v) st2 := (rfl)
@[simp] theorem catU_lst (a b : List U) : catU (.lst a) (.lst b) = if a.length + b.length ≤ 16777216 then some (a ++ b) else none := by rw [← sizeLine_val]; rfl
end D
namespace D
open PySem L2
section
variable {X : Cx} {xs : XS} {wx : WX} {pos : Pos}
theorem ss_bad {ss : List Stmt} : PSs X ss (tDS X.K xs wx sBad) := ⟨fun pins s sg H D I h => by
  obtain ⟨F, io, st, env, f, w⟩ := h
  exact w.elim⟩
/-! ### max of a list of ints -/
def maxI (n : Int) (r : List Int) : Int := r.foldl (fun a y => if a < y then y else a) n
theorem maxI_mem : ∀ (r : List Int) (n : Int), maxI n r ∈ n :: r
  | [], n => by simp [maxI]
  | y :: r, n => by
    show maxI (if n < y then y else n) r ∈ n :: y :: r
    have := maxI_mem r (if n < y then y else n)
    rcases List.mem_cons.mp this with q | q
    · rw [q]
      split
      · simp
      · simp
    · simp [q]
theorem maxI_ge : ∀ (r : List Int) (n : Int), ∀ a ∈ n :: r, a ≤ maxI n r
  | [], n, a, h => by simp at h; subst h; simp [maxI]
  | y :: r, n, a, h => by
    show a ≤ maxI (if n < y then y else n) r
    have ih := maxI_ge r (if n < y then y else n)
    have h0 := ih _ (List.mem_cons_self ..)
    rcases List.mem_cons.mp h with q | q
    · subst q
      by_cases z : a < y
      · rw [if_pos z] at h0 ⊢; omega
      · rw [if_neg z] at h0 ⊢; exact h0
    · rcases List.mem_cons.mp q with q | q
      · subst q
        by_cases z : n < a
        · rw [if_pos z] at h0 ⊢; exact h0
        · rw [if_neg z] at h0 ⊢; omega
      · exact ih a (List.mem_cons_of_mem _ q)
def maxLN : List U → Option U
  | [.lst us] => match intsU us with
    | some (n :: r) => some (.int (maxI n r))
    | _ => none
  | _ => none
theorem c_maxL (hc : X.calm = true) : CallR X (.builtin "max") (PN X.K maxLN) := by
  intro pins s sg H vs us Q I r h
  obtain ⟨G, io, st, ws, u, ok, rs, e, q⟩ := h
  unfold maxLN at e
  split at e
  · rename_i us'
    split at e
    · rename_i n rr hi
      cases e
      obtain ⟨v, rfl, rv⟩ := rs.one
      obtain ⟨a, ys, rfl, l, r'⟩ := rv.lst'
      have hu := ints_eq hi
      subst hu
      have hy := Reps.ofInts r'
      subst hy
      refine cr_max hc pins s sg H _ us Q I r ⟨a, n :: rr, rfl, l.sq, by simp, fun m hm hle => ?_⟩
      have : m = maxI n rr := by
        have h1 := hle _ (maxI_mem rr n)
        have h2 := maxI_ge rr n m hm
        omega
      subst this
      exact q _ H (Same.refl H) (rInt _)
    · cases e
  · cases e
/-- max(xs, default=d) -/
def maxD2 : U → U → Option U
  | .lst us, d => match intsU us with
    | some (n :: r) => some (.int (maxI n r))
    | some [] => some d
    | none => none
  | _, _ => none
def maxDef (f g : DE) : DE := fun env st => (f env st).bind fun u st1 => (g env st1).bind fun v st2 => Rs.of (maxD2 u v) st2
theorem max_of (n : Int) (r : List Int) : PySem.W.maxOf n r = maxI n r := by
  unfold PySem.W.maxOf maxI
  congr 1
  funext a y
  show (if (decide (a < y)) = true then y else a) = _
  by_cases q : a < y <;> simp [q]
theorem holds_ints {h : Heap} : ∀ {ns : List Int} {its : List Value}, Vals (ns.map V.int) its → PySem.W.HoldAll h its ns
  | [], _, .nil => ⟨_, .nil⟩
  | n :: ns, _, .cons r rs => by
    obtain ⟨t, rfl⟩ := r
    exact PySem.W.HoldAll.cons (PySem.W.holds_int n t) (holds_ints rs)
def rMaxD (K : PySem.W.Frag) : List V → List V → Hp → VK → Prop := fun vs zs H Q => ∃ (a : Addr) (ns : List Int) (d : V), vs = [.ref a] ∧ zs = [d] ∧ SqL K H a (ns.map V.int) ∧ match ns with
  | [] => Q d H
  | n :: r => Q (.int (maxI n r)) H
theorem cr_maxD (hc : X.calm = true) (hu : X.A.units + 64 < cLine) : CallRK X (.builtin "max") [Str.ofString "default"] (rMaxD X.K) := by
  intro pins s sg H vs zs us ws Q I rv rz h
  obtain ⟨a, ns, d, rfl, rfl, hs, q⟩ := h
  obtain ⟨its, rvv, hl, _⟩ := I.list hs
  rw [Vals.ref1 rv]
  obtain ⟨dv, rfl, rd⟩ := rz.one
  refine PySem.W.max_list_datum_default (α := Int) (xs := ns) (I.ok.hd hc) hl.isList (holds_ints rvv) (by show X.A.units + 1 + 0 < cLine; omega) (fun e h' tk hk => ?_) (fun y ys i v h' tk e hi hv hk => ?_)
  · subst e
    exact ⟨d, H, I.kept hk, rd, q⟩
  · subst e
    obtain ⟨t, rfl⟩ := PySem.W.int_of_holds hv
    rw [max_of]
    exact ⟨.int (maxI y ys), H, I.kept hk, ⟨t, rfl⟩, q⟩
theorem d_maxDef {p kp : Pos} {e e2 : Expr} {f g : DE} (hc : X.calm = true) (hu : X.A.units + 64 < cLine) (hg : Gl X "max") (hm : X.mg "max" = none) (ha : PE X e (tD X.K xs wx f)) (hb : PE X e2 (tD X.K xs wx g)) (hs : starEach (e :: []) X.env = (false, eval e X.env) :: starEach [] X.env := by rfl)
    (he : backTo pos (starEach (e :: []) X.env) = (false, eval e X.env) :: backTo pos (starEach [] X.env) := by rfl) (hpl : (backTo pos (starEach (e :: []) X.env)).any (·.1) = false := by rfl)
    (hall : (backToKw pos (keywordEach [⟨some (Str.ofString "default"), e2, kp⟩] X.env)).all (·.1.isSome) = true := by rfl) (hnone : (backToKw pos (keywordEach [⟨some (Str.ofString "default"), e2, kp⟩] X.env)).any (·.1.isNone) = false := by rfl) (hks : (backToKw pos (keywordEach [⟨some (Str.ofString "default"), e2, kp⟩] X.env)).filterMap (·.1) = [Str.ofString "default"] := by rfl) :
    PE X (.Call (.Name "max" p) [e] [⟨some (Str.ofString "default"), e2, kp⟩] pos) (tD X.K xs wx (maxDef f g)) :=
  pe_imp (pe_callBK (cr_maxD hc hu) hg hm bt_max (pa_cons ha pa_nil hs) (pk_cons hb pk_nil) (by decide) (by decide) he hpl hall hnone hks) fun sg H Q q => by
    obtain ⟨G, io, st, env, ok, er, w⟩ := q
    refine ⟨G, io, st, env, ok, er, w.bind.impR fun st1 io1 H1 u ok1 e1 w1 v rv => ?_⟩
    refine ⟨G, io1, st1, env, ok1, er.ext ok.dj e1, w1.bind.impR fun st2 io2 H2 u2 ok2 e2 w2 v2 rv2 => ?_⟩
    obtain ⟨ws, hu, w3⟩ := w2.pure
    have rv := rv.ext e2
    unfold maxD2 at hu
    split at hu
    · rename_i us' d
      obtain ⟨a, ys, rfl, l, r'⟩ := rv.lst'
      split at hu
      · rename_i n r hi
        cases hu
        have hu := ints_eq hi
        subst hu
        have hy := Reps.ofInts r'
        subst hy
        exact ⟨a, n :: r, v2, rfl, rfl, l.sq, w3.here ok2 _ (rInt _)⟩
      · rename_i hi
        cases hu
        have hu := ints_eq hi
        subst hu
        have hy := Reps.ofInts (ns := []) r'
        subst hy
        exact ⟨a, [], v2, rfl, rfl, l.sq, w3.here ok2 _ rv2⟩
      · cases hu
    · cases hu
end
@[simp] theorem maxDef_ap (f g : DE) (env : Env) (st : Store) : maxDef f g env st = (f env st).bind fun u st1 => (g env st1).bind fun v st2 => Rs.of (maxD2 u v) st2 := (rfl)
end D
namespace D
open PySem L2
/-! ### operations at known kinds -/
section
variable (i j : Int) (x y : Str) (us ws : List U) (ns : List Int) (b : Bool)
@[simp] theorem len_str : lenN [.str x] = if x.length ≤ 16777216 then some (.int x.length) else none := by rw [← sizeLine_val]; rfl
@[simp] theorem add_strs : add2 (.str x) (.str y) = if x.length + y.length ≤ 16777216 then some (.str (x ++ y)) else none := by rw [← sizeLine_val]; rfl
@[simp] theorem add_tups : add2 (.tup us) (.tup ws) = if us.length + ws.length ≤ 16777216 then some (.tup (us ++ ws)) else none := by rw [← sizeLine_val]; rfl
@[simp] theorem add_lsts : add2 (.lst us) (.lst ws) = if us.length + ws.length ≤ 16777216 then some (.lst (us ++ ws)) else none := by rw [← sizeLine_val]; rfl
@[simp] theorem mul_int : mul2 (.int i) (.int j) = if smallI i || smallI j then some (.int (i * j)) else none := (rfl)
@[simp] theorem mod_int : mod2 (.int i) (.int j) = if 0 < j then some (.int (i % j)) else none := (rfl)
@[simp] theorem fdiv_int : fdiv2 (.int i) (.int j) = if 0 < j ∧ j < 1073741824 then some (.int (i / j)) else none := (rfl)
@[simp] theorem gt_str : gt2 (.str x) (.str y) = some (.bl (ltC y x)) := (rfl)
@[simp] theorem ge_str : ge2 (.str x) (.str y) = some (.bl (!ltC x y)) := (rfl)
@[simp] theorem szT_ap : szT us = if us.length ≤ 16777216 then some (.tup us) else none := by rw [← sizeLine_val]; rfl
@[simp] theorem szL_ap : szL us = if us.length ≤ 16777216 then some (.lst us) else none := by rw [← sizeLine_val]; rfl
@[simp] theorem items_scr : items (.scr ns) = some (ns.map U.int) := (rfl)
@[simp] theorem items_str : items (.str x) = some (x.cps.toList.map fun c => U.str ⟨#[c]⟩) := (rfl)
@[simp] theorem lstL_lst : lstL [.lst us] = some us := (rfl)
@[simp] theorem lstL_tup : lstL [.tup us] = some us := (rfl)
@[simp] theorem lstL_scr : lstL [.scr ns] = some (ns.map U.int) := (rfl)
@[simp] theorem tupN_lst : tupN [.lst us] = some (.tup us) := (rfl)
@[simp] theorem tupN_tup : tupN [.tup us] = some (.tup us) := (rfl)
@[simp] theorem intN_int : intN [.int i] = some (.int i) := (rfl)
@[simp] theorem intN_bl : intN [.bl b] = some (.int (if b then 1 else 0)) := (rfl)
@[simp] theorem enum_lst : enumerateN [.lst us] = some (numU us) := (rfl)
@[simp] theorem enum_tup : enumerateN [.tup us] = some (numU us) := (rfl)
@[simp] theorem zip_lst : zipN [.lst us, .lst ws] = some (zipU us ws) := (rfl)
@[simp] theorem zip_tup : zipN [.tup us, .tup ws] = some (zipU us ws) := (rfl)
@[simp] theorem rev_lst : rev1 (.lst us) = some us.reverse := (rfl)
@[simp] theorem rev_tup : rev1 (.tup us) = some us.reverse := (rfl)
@[simp] theorem back_lst : back1 (.lst us) = some (.lst us.reverse) := (rfl)
@[simp] theorem back_tup : back1 (.tup us) = some (.tup us.reverse) := (rfl)
@[simp] theorem sl_lst (lo hi : Option Int) : sl3 (.lst us) lo hi = some (.lst (cutL us lo hi)) := (rfl)
@[simp] theorem sl_tup (lo hi : Option Int) : sl3 (.tup us) lo hi = some (.tup (cutL us lo hi)) := (rfl)
@[simp] theorem sl_scr (lo hi : Option Int) : sl3 (.scr ns) lo hi = some (.lst ((cutL ns lo hi).map U.int)) := (rfl)
@[simp] theorem sl_str (lo hi : Option Int) : sl3 (.str x) lo hi = if x.length ≤ 16777216 then some (.str (cutS x lo hi)) else none := by rw [← sizeLine_val]; rfl
@[simp] theorem ix_lst' : ix2 (.lst us) (.int i) = atI us i := (rfl)
@[simp] theorem ix_tup' : ix2 (.tup us) (.int i) = atI us i := (rfl)
@[simp] theorem ix_scr' : ix2 (.scr ns) (.int i) = (atI ns i).map U.int := (rfl)
end
theorem atI_cast {A : Type} (l : List A) (n : Nat) : atI l (n : Int) = l[n]? := by
  cases h : l[n]? with
  | some x => exact atI_nat h
  | none =>
    have hl : l.length ≤ n := List.getElem?_eq_none_iff.mp h
    unfold atI ixN
    rw [if_pos (by omega), if_neg (by omega)]
    rfl
@[simp] theorem atI_nat' {A : Type} (l : List A) (n : Nat) : atI l (n : Int) = l[n]? := atI_cast l n
theorem atI_neg {A : Type} (l : List A) (k : Nat) (h : k + 1 ≤ l.length) : atI l (-((k : Int) + 1)) = l[l.length - (k + 1)]? := by
  unfold atI ixN
  rw [if_neg (by omega), if_pos (by omega)]
  show l[_]? = _
  congr 1
  omega
@[simp] theorem atI_neg1 {A : Type} (l : List A) : atI l (-1) = l.getLast? := by
  cases l with
  | nil => rfl
  | cons a l =>
    have := atI_neg (a :: l) 0 (by simp)
    rw [show (-1 : Int) = -(((0 : Nat) : Int) + 1) from rfl, this, List.getLast?_eq_getElem?]
@[simp] theorem cutL_all {A : Type} (l : List A) : cutL l none none = l := by
  unfold cutL
  rw [HT.sIx_none, HT.sIx_none, List.drop_zero, Nat.sub_zero, List.take_length]
theorem cutL_to {A : Type} (l : List A) (n : Nat) : cutL l none (some (n : Int)) = l.take n := by
  unfold cutL
  rw [HT.sIx_none, HT.sIx_nat, List.drop_zero, Nat.sub_zero, List.take_eq_take_iff]
  omega
theorem cutL_from {A : Type} (l : List A) (n : Nat) : cutL l (some (n : Int)) none = l.drop n := by
  unfold cutL
  rw [HT.sIx_none, HT.sIx_nat]
  by_cases h : n ≤ l.length
  · rw [Nat.min_eq_left h, List.take_of_length_le (by simp)]
  · rw [Nat.min_eq_right (by omega), Nat.sub_self, List.take_zero, List.drop_eq_nil_of_le (by omega)]
theorem cutL_mid {A : Type} (l : List A) (m n : Nat) : cutL l (some (m : Int)) (some (n : Int)) = (l.drop m).take (n - m) := by
  unfold cutL
  rw [HT.sIx_nat, HT.sIx_nat]
  by_cases h : m ≤ l.length
  · rw [Nat.min_eq_left h, List.take_eq_take_iff, List.length_drop]
    omega
  · rw [Nat.min_eq_right (a := m) (by omega), List.drop_length, List.take_nil, List.drop_eq_nil_of_le (by omega), List.take_nil]
@[simp] theorem atI_lit {A : Type} (l : List A) (n : Nat) : atI l (no_index (@OfNat.ofNat Int n instOfNat)) = l[@OfNat.ofNat Nat n (instOfNatNat n)]? := atI_cast l n
@[simp] theorem cutL_toL {A : Type} (l : List A) (n : Nat) : cutL l none (some (no_index (@OfNat.ofNat Int n instOfNat))) = l.take (@OfNat.ofNat Nat n (instOfNatNat n)) := cutL_to l n
@[simp] theorem cutL_fromL {A : Type} (l : List A) (n : Nat) : cutL l (some (no_index (@OfNat.ofNat Int n instOfNat))) none = l.drop (@OfNat.ofNat Nat n (instOfNatNat n)) := cutL_from l n
@[simp] theorem cutL_midL {A : Type} (l : List A) (m n : Nat) : cutL l (some (no_index (@OfNat.ofNat Int m instOfNat))) (some (no_index (@OfNat.ofNat Int n instOfNat))) = (l.drop (@OfNat.ofNat Nat m (instOfNatNat m))).take (@OfNat.ofNat Nat n (instOfNatNat n) - @OfNat.ofNat Nat m (instOfNatNat m)) := cutL_mid l m n
@[simp] theorem cutL_toN {A : Type} (l : List A) : cutL l none (some (-1)) = l.dropLast := by
  have e : HT.sIx l.length l.length (some (-1)) = l.length - 1 := by
    show (if (-1 : Int) < 0 then ((-1 : Int) + (l.length : Int)).toNat else min (-1 : Int).toNat l.length) = _
    rw [if_pos (by decide)]; omega
  unfold cutL
  rw [HT.sIx_none, e, List.drop_zero, Nat.sub_zero, List.dropLast_eq_take]
@[simp] theorem cutL_fromN {A : Type} (l : List A) : cutL l (some (-1)) none = l.drop (l.length - 1) := by
  have e : HT.sIx l.length 0 (some (-1)) = l.length - 1 := by
    show (if (-1 : Int) < 0 then ((-1 : Int) + (l.length : Int)).toNat else min (-1 : Int).toNat l.length) = _
    rw [if_pos (by decide)]; omega
  unfold cutL
  rw [HT.sIx_none, e, List.take_of_length_le (by simp)]
@[simp] theorem cutL_to' {A : Type} (l : List A) (n : Nat) : cutL l none (some (n : Int)) = l.take n := cutL_to l n
@[simp] theorem cutL_from' {A : Type} (l : List A) (n : Nat) : cutL l (some (n : Int)) none = l.drop n := cutL_from l n
@[simp] theorem cutL_mid' {A : Type} (l : List A) (m n : Nat) : cutL l (some (m : Int)) (some (n : Int)) = (l.drop m).take (n - m) := cutL_mid l m n

@[simp] theorem isi_non_str  : isiN [.non, .ty "str"] = some (.bl false) := (rfl)
@[simp] theorem isi_non_int  : isiN [.non, .ty "int"] = some (.bl false) := (rfl)
@[simp] theorem isi_non_bool  : isiN [.non, .ty "bool"] = some (.bl false) := (rfl)
@[simp] theorem isi_non_tuple  : isiN [.non, .ty "tuple"] = some (.bl false) := (rfl)
@[simp] theorem isi_non_list  : isiN [.non, .ty "list"] = some (.bl false) := (rfl)
@[simp] theorem isi_non_dict  : isiN [.non, .ty "dict"] = some (.bl false) := (rfl)
@[simp] theorem isi_bl_str (b : Bool) : isiN [(.bl b), .ty "str"] = some (.bl false) := (rfl)
@[simp] theorem isi_bl_int (b : Bool) : isiN [(.bl b), .ty "int"] = some (.bl true) := (rfl)
@[simp] theorem isi_bl_bool (b : Bool) : isiN [(.bl b), .ty "bool"] = some (.bl true) := (rfl)
@[simp] theorem isi_bl_tuple (b : Bool) : isiN [(.bl b), .ty "tuple"] = some (.bl false) := (rfl)
@[simp] theorem isi_bl_list (b : Bool) : isiN [(.bl b), .ty "list"] = some (.bl false) := (rfl)
@[simp] theorem isi_bl_dict (b : Bool) : isiN [(.bl b), .ty "dict"] = some (.bl false) := (rfl)
@[simp] theorem isi_int_str (i : Int) : isiN [(.int i), .ty "str"] = some (.bl false) := (rfl)
@[simp] theorem isi_int_int (i : Int) : isiN [(.int i), .ty "int"] = some (.bl true) := (rfl)
@[simp] theorem isi_int_bool (i : Int) : isiN [(.int i), .ty "bool"] = some (.bl false) := (rfl)
@[simp] theorem isi_int_tuple (i : Int) : isiN [(.int i), .ty "tuple"] = some (.bl false) := (rfl)
@[simp] theorem isi_int_list (i : Int) : isiN [(.int i), .ty "list"] = some (.bl false) := (rfl)
@[simp] theorem isi_int_dict (i : Int) : isiN [(.int i), .ty "dict"] = some (.bl false) := (rfl)
@[simp] theorem isi_str_str (x : Str) : isiN [(.str x), .ty "str"] = some (.bl true) := (rfl)
@[simp] theorem isi_str_int (x : Str) : isiN [(.str x), .ty "int"] = some (.bl false) := (rfl)
@[simp] theorem isi_str_bool (x : Str) : isiN [(.str x), .ty "bool"] = some (.bl false) := (rfl)
@[simp] theorem isi_str_tuple (x : Str) : isiN [(.str x), .ty "tuple"] = some (.bl false) := (rfl)
@[simp] theorem isi_str_list (x : Str) : isiN [(.str x), .ty "list"] = some (.bl false) := (rfl)
@[simp] theorem isi_str_dict (x : Str) : isiN [(.str x), .ty "dict"] = some (.bl false) := (rfl)
@[simp] theorem isi_tup_str (us : List U) : isiN [(.tup us), .ty "str"] = some (.bl false) := (rfl)
@[simp] theorem isi_tup_int (us : List U) : isiN [(.tup us), .ty "int"] = some (.bl false) := (rfl)
@[simp] theorem isi_tup_bool (us : List U) : isiN [(.tup us), .ty "bool"] = some (.bl false) := (rfl)
@[simp] theorem isi_tup_tuple (us : List U) : isiN [(.tup us), .ty "tuple"] = some (.bl true) := (rfl)
@[simp] theorem isi_tup_list (us : List U) : isiN [(.tup us), .ty "list"] = some (.bl false) := (rfl)
@[simp] theorem isi_tup_dict (us : List U) : isiN [(.tup us), .ty "dict"] = some (.bl false) := (rfl)
@[simp] theorem isi_lst_str (us : List U) : isiN [(.lst us), .ty "str"] = some (.bl false) := (rfl)
@[simp] theorem isi_lst_int (us : List U) : isiN [(.lst us), .ty "int"] = some (.bl false) := (rfl)
@[simp] theorem isi_lst_bool (us : List U) : isiN [(.lst us), .ty "bool"] = some (.bl false) := (rfl)
@[simp] theorem isi_lst_tuple (us : List U) : isiN [(.lst us), .ty "tuple"] = some (.bl false) := (rfl)
@[simp] theorem isi_lst_list (us : List U) : isiN [(.lst us), .ty "list"] = some (.bl true) := (rfl)
@[simp] theorem isi_lst_dict (us : List U) : isiN [(.lst us), .ty "dict"] = some (.bl false) := (rfl)
@[simp] theorem isi_dct_str (ks us : List U) : isiN [(.dct ks us), .ty "str"] = some (.bl false) := (rfl)
@[simp] theorem isi_dct_int (ks us : List U) : isiN [(.dct ks us), .ty "int"] = some (.bl false) := (rfl)
@[simp] theorem isi_dct_bool (ks us : List U) : isiN [(.dct ks us), .ty "bool"] = some (.bl false) := (rfl)
@[simp] theorem isi_dct_tuple (ks us : List U) : isiN [(.dct ks us), .ty "tuple"] = some (.bl false) := (rfl)
@[simp] theorem isi_dct_list (ks us : List U) : isiN [(.dct ks us), .ty "list"] = some (.bl false) := (rfl)
@[simp] theorem isi_dct_dict (ks us : List U) : isiN [(.dct ks us), .ty "dict"] = some (.bl true) := (rfl)
@[simp] theorem isi_scr_str (ns : List Int) : isiN [(.scr ns), .ty "str"] = some (.bl false) := (rfl)
@[simp] theorem isi_scr_int (ns : List Int) : isiN [(.scr ns), .ty "int"] = some (.bl false) := (rfl)
@[simp] theorem isi_scr_bool (ns : List Int) : isiN [(.scr ns), .ty "bool"] = some (.bl false) := (rfl)
@[simp] theorem isi_scr_tuple (ns : List Int) : isiN [(.scr ns), .ty "tuple"] = some (.bl false) := (rfl)
@[simp] theorem isi_scr_list (ns : List Int) : isiN [(.scr ns), .ty "list"] = some (.bl true) := (rfl)
@[simp] theorem isi_scr_dict (ns : List Int) : isiN [(.scr ns), .ty "dict"] = some (.bl false) := (rfl)
@[simp] theorem is_non_non  : is2 .non .non = some (.bl true) := (rfl)
@[simp] theorem isnot_non_non  : isnot2 .non .non = some (.bl false) := (rfl)
@[simp] theorem is_bl_non (b : Bool) : is2 (.bl b) .non = some (.bl false) := (rfl)
@[simp] theorem isnot_bl_non (b : Bool) : isnot2 (.bl b) .non = some (.bl true) := (rfl)
@[simp] theorem is_int_non (i : Int) : is2 (.int i) .non = some (.bl false) := (rfl)
@[simp] theorem isnot_int_non (i : Int) : isnot2 (.int i) .non = some (.bl true) := (rfl)
@[simp] theorem is_str_non (x : Str) : is2 (.str x) .non = some (.bl false) := (rfl)
@[simp] theorem isnot_str_non (x : Str) : isnot2 (.str x) .non = some (.bl true) := (rfl)
@[simp] theorem is_tup_non (us : List U) : is2 (.tup us) .non = some (.bl false) := (rfl)
@[simp] theorem isnot_tup_non (us : List U) : isnot2 (.tup us) .non = some (.bl true) := (rfl)
@[simp] theorem is_lst_non (us : List U) : is2 (.lst us) .non = some (.bl false) := (rfl)
@[simp] theorem isnot_lst_non (us : List U) : isnot2 (.lst us) .non = some (.bl true) := (rfl)
@[simp] theorem is_dct_non (ks us : List U) : is2 (.dct ks us) .non = some (.bl false) := (rfl)
@[simp] theorem isnot_dct_non (ks us : List U) : isnot2 (.dct ks us) .non = some (.bl true) := (rfl)
@[simp] theorem is_scr_non (ns : List Int) : is2 (.scr ns) .non = none := (rfl)
@[simp] theorem isnot_scr_non (ns : List Int) : isnot2 (.scr ns) .non = none := (rfl)
@[simp] theorem is_bl_bl (a b : Bool) : is2 (.bl a) (.bl b) = some (.bl (decide (a = b))) := (rfl)
@[simp] theorem isnot_bl_bl (a b : Bool) : isnot2 (.bl a) (.bl b) = some (.bl (!decide (a = b))) := (rfl)
theorem smallI_lit (i : Int) : smallI i = decide (-18446744073709551616 < i ∧ i < 18446744073709551616) := (rfl)
end D
namespace C
open PySem L2 D
/-! ### tuples of texts -/
abbrev tS (ws : List Str) : U := .tup (ws.map U.str)
abbrev lS (ws : List Str) : U := .lst (ws.map U.str)
@[simp] theorem ofS_inj (a b : String) : (Str.ofString a = Str.ofString b) ↔ a = b := by
  refine ⟨fun h => ?_, fun h => by rw [h]⟩
  have h1 : cpsOfBytes 0 0 a.toByteArray.data.toList = cpsOfBytes 0 0 b.toByteArray.data.toList := by
    have := congrArg (fun x : Str => x.cps.toList) h
    simpa [Str.ofString] using this
  rw [cpsOfBytes_string, cpsOfBytes_string] at h1
  have h2 : a.toList = b.toList := by
    have inj : ∀ l m : List Char, l.map Char.toNat = m.map Char.toNat → l = m := by
      intro l
      induction l with
      | nil => intro m h; cases m with
        | nil => rfl
        | cons _ _ => cases h
      | cons c l ih => intro m h; cases m with
        | nil => cases h
        | cons d m =>
          simp only [List.map_cons, List.cons.injEq] at h
          rw [ih m h.2, Char.ext (UInt32.toNat_inj.mp h.1)]
    exact inj _ _ h1
  rw [← String.ofList_toList (s := a), h2, String.ofList_toList]
theorem eqU_str1 (x y : Str) : eqU (.str y) (.str x) = decide (y = x) := eqU_str y x
theorem any_txt (x : Str) : ∀ ws : List Str, ((ws.map U.str).any fun y => eqU y (.str x)) = decide (x ∈ ws)
  | [] => rfl
  | w :: ws => by
    rw [List.map_cons, List.any_cons, any_txt x ws, eqU_str1]
    rw [Bool.eq_iff_iff, Bool.or_eq_true, decide_eq_true_eq, decide_eq_true_eq, decide_eq_true_eq, List.mem_cons]
    exact or_congr eq_comm Iff.rfl
theorem flat_txt : ∀ ws : List Str, (ws.map U.str).all flatU = true
  | [] => rfl
  | w :: ws => by rw [List.map_cons, List.all_cons, flat_txt ws]; rfl
@[simp] theorem in_txt (x : Str) (ws : List Str) : in2 (.str x) (tS ws) = some (.bl (decide (x ∈ ws))) := by
  show (if flatU (.str x) && (ws.map U.str).all flatU then some (U.bl ((ws.map U.str).any fun y => eqU y (.str x))) else none) = _
  rw [flat_txt, any_txt]; rfl
@[simp] theorem nin_txt (x : Str) (ws : List Str) : nin2 (.str x) (tS ws) = some (.bl (!decide (x ∈ ws))) := by
  show (if flatU (.str x) && (ws.map U.str).all flatU then some (U.bl (!(ws.map U.str).any fun y => eqU y (.str x))) else none) = _
  rw [flat_txt, any_txt]; rfl
theorem eqZ_map {T : Type} [DecidableEq T] {f : T → U} {g : U → U → Option Bool} (h : ∀ a b : T, g (f a) (f b) = some (decide (a = b))) : ∀ as bs : List T, ∃ c, eqZ g (as.map f) (bs.map f) = some c ∧ (c && decide (as.length = bs.length)) = decide (as = bs)
  | [], [] => ⟨true, rfl, by simp⟩
  | [], _ :: _ => ⟨true, rfl, by simp⟩
  | _ :: _, [] => ⟨true, rfl, by simp⟩
  | a :: as, b :: bs => by
    obtain ⟨c, h1, h2⟩ := eqZ_map h as bs
    refine ⟨decide (a = b) && c, by simp only [List.map_cons, eqZ, h, h1], ?_⟩
    have h3 : decide (a :: as = b :: bs) = (decide (a = b) && decide (as = bs)) := by
      by_cases q : a = b <;> by_cases z : as = bs <;> simp [q, z]
    rw [h3, ← h2]
    by_cases q : as.length = bs.length <;> simp [q]
theorem eqF_tup {T : Type} [DecidableEq T] {f : T → U} {n : Nat} (h : ∀ a b : T, eqF n (f a) (f b) = some (decide (a = b))) (as bs : List T) : eqF (n + 1) (.tup (as.map f)) (.tup (bs.map f)) = some (decide (as = bs)) := by
  obtain ⟨c, h1, h2⟩ := eqZ_map h as bs
  simp only [eqF, h1, Option.map_some, List.length_map, h2]
theorem eqF_lst {T : Type} [DecidableEq T] {f : T → U} {n : Nat} (h : ∀ a b : T, eqF n (f a) (f b) = some (decide (a = b))) (as bs : List T) : eqF (n + 1) (.lst (as.map f)) (.lst (bs.map f)) = some (decide (as = bs)) := by
  obtain ⟨c, h1, h2⟩ := eqZ_map h as bs
  by_cases q : as.length = bs.length
  · simp only [q, decide_true, Bool.and_true] at h2
    simp only [eqF, List.length_map, if_pos q, h1, h2]
  · have h3 : as ≠ bs := fun e => q (by rw [e])
    simp only [eqF, List.length_map, if_neg q, h3, decide_false]
theorem eqF_str (n : Nat) (a b : Str) : eqF (n + 1) (.str a) (.str b) = some (decide (a = b)) := by
  show some (a == b) = _
  by_cases q : a = b <;> simp [q]
theorem eqF_int (n : Nat) (a b : Int) : eqF (n + 1) (.int a) (.int b) = some (decide (a = b)) := by
  show some (a == b) = _
  by_cases q : a = b <;> simp [q]
theorem eqF_txt (n : Nat) (as bs : List Str) : eqF (n + 2) (tS as) (tS bs) = some (decide (as = bs)) := eqF_tup (eqF_str n) as bs
theorem eqF_txtL (n : Nat) (as bs : List Str) : eqF (n + 2) (lS as) (lS bs) = some (decide (as = bs)) := eqF_lst (eqF_str n) as bs
@[simp] theorem eq_str (a b : Str) : eq2 (.str a) (.str b) = some (.bl (decide (a = b))) := by unfold eq2; rw [eqF_str 59]; rfl
@[simp] theorem ne_str (a b : Str) : ne2 (.str a) (.str b) = some (.bl (!decide (a = b))) := by unfold ne2; rw [eqF_str 59]; rfl
@[simp] theorem eq_int (a b : Int) : eq2 (.int a) (.int b) = some (.bl (decide (a = b))) := by unfold eq2; rw [eqF_int 59]; rfl
@[simp] theorem ne_int (a b : Int) : ne2 (.int a) (.int b) = some (.bl (!decide (a = b))) := by unfold ne2; rw [eqF_int 59]; rfl
@[simp] theorem eq_bl (a b : Bool) : eq2 (.bl a) (.bl b) = some (.bl (decide (a = b))) := by cases a <;> cases b <;> rfl
@[simp] theorem ne_bl (a b : Bool) : ne2 (.bl a) (.bl b) = some (.bl (!decide (a = b))) := by cases a <;> cases b <;> rfl
theorem ne_txt (as bs : List Str) : ne2 (tS as) (tS bs) = some (.bl (!decide (as = bs))) := by unfold ne2; rw [eqF_txt 58]; rfl
theorem eq_txt (as bs : List Str) : eq2 (tS as) (tS bs) = some (.bl (decide (as = bs))) := by unfold eq2; rw [eqF_txt 58]; rfl
theorem ne_txtL (as bs : List Str) : ne2 (lS as) (lS bs) = some (.bl (!decide (as = bs))) := by unfold ne2; rw [eqF_txtL 58]; rfl
theorem eq_txtL (as bs : List Str) : eq2 (lS as) (lS bs) = some (.bl (decide (as = bs))) := by unfold eq2; rw [eqF_txtL 58]; rfl
theorem eqZ_nil (f : U → U → Option Bool) (us : List U) : eqZ f us [] = some true := by cases us <;> rfl
@[simp] theorem eq_nilT (us : List U) : eq2 (.tup us) (.tup []) = some (.bl us.isEmpty) := by
  unfold eq2 eqF
  rw [eqZ_nil]
  cases us <;> rfl
@[simp] theorem ne_nilT (us : List U) : ne2 (.tup us) (.tup []) = some (.bl (!us.isEmpty)) := by
  unfold ne2 eqF
  rw [eqZ_nil]
  cases us <;> rfl
@[simp] theorem eq_nilL (us : List U) : eq2 (.lst us) (.lst []) = some (.bl us.isEmpty) := by
  cases us <;> rfl
@[simp] theorem ne_nilL (us : List U) : ne2 (.lst us) (.lst []) = some (.bl (!us.isEmpty)) := by
  cases us <;> rfl
theorem add_txt {as bs : List Str} (h : as.length + bs.length ≤ 16777216) : add2 (tS as) (tS bs) = some (tS (as ++ bs)) := by
  unfold tS
  simp [add2, h]
theorem txts_txt (ws : List Str) : txts (tS ws) = some ws := by
  unfold tS txts
  exact strs_map ws
theorem sortSet_txt {ws : List Str} (h : ws.length < 4000) : sortSet1 (tS ws) = some ((sortS (dedS ws)).map U.str) := by
  unfold sortSet1
  rw [txts_txt]
  simp; omega
theorem cut_map {A B : Type} (f : A → B) (l : List A) (lo hi : Option Int) : cutL (l.map f) lo hi = (cutL l lo hi).map f := by
  unfold cutL
  rw [List.length_map, List.map_take, List.map_drop]
theorem sl_txt (ws : List Str) (lo hi : Option Int) : sl3 (tS ws) lo hi = some (tS (cutL ws lo hi)) := by
  show some (U.tup (cutL (ws.map U.str) lo hi)) = _
  rw [cut_map]
/-! ### of two leaves -/
def bothS (a b : List Str) : List Str := a.filter fun x => decide (x ∈ b)
def lackS (a b : List Str) : List Str := a.filter fun x => !decide (x ∈ b)
def joinS (a b : List Str) : List Str := sortS (dedS (a ++ b))
def b_both : DS := (sSeq (sRet (appN tupN (acons (newL (compD (itemsD (var 0)) [2] (tgN 2) (tst (bin in2 (var 2) (var 1))) (var 2))) anil))) sNil)
def f_both : List U → Store → Rs U := runB 3 2 b_both
def b_joined : DS := (sSeq (sRet (appN tupN (acons (newL (itE sortSet1 (bin add2 (var 0) (var 1)))) anil))) sNil)
def f_joined : List U → Store → Rs U := runB 2 2 b_joined
def b_lacking : DS := (sSeq (sRet (appN tupN (acons (newL (compD (itemsD (var 0)) [2] (tgN 2) (tst (bin nin2 (var 2) (var 1))) (var 2))) anil))) sNil)
def f_lacking : List U → Store → Rs U := runB 3 2 b_lacking
def b_within : DS := (sSeq (sRet (bin eq2 (appU f_lacking (acons (var 0) (acons (var 1) anil))) (appN szT anil))) sNil)
def f_within : List U → Store → Rs U := runB 2 2 b_within
theorem items_txt (ws : List Str) : items (tS ws) = some (ws.map U.str) := (rfl)
theorem both_ev (a b : List Str) (ha : a.length ≤ 16777216) (st : Store) : f_both [tS a, tS b] st = .ok (tS (bothS a b)) st := by
  have hc : compL (tgN 2) (tst (bin in2 (var 2) (var 1))) (var 2) (a.map U.str) [.val (tS a), .val (tS b), .un] st = .ok ((bothS a b).map U.str) st :=
    comp_filterM a fun x _ => ⟨_, rfl, by simp, fun _ => by simp⟩
  unfold f_both b_both
  simp [items_txt, ha, wipeE, hc, tupN]
theorem lacking_ev (a b : List Str) (ha : a.length ≤ 16777216) (st : Store) : f_lacking [tS a, tS b] st = .ok (tS (lackS a b)) st := by
  have hc : compL (tgN 2) (tst (bin nin2 (var 2) (var 1))) (var 2) (a.map U.str) [.val (tS a), .val (tS b), .un] st = .ok ((lackS a b).map U.str) st :=
    comp_filterM a fun x _ => ⟨_, rfl, by simp, fun _ => by simp⟩
  unfold f_lacking b_lacking
  simp [items_txt, ha, wipeE, hc, tupN]
theorem joined_ev (a b : List Str) (h : a.length + b.length < 4000) (st : Store) : f_joined [tS a, tS b] st = .ok (tS (joinS a b)) st := by
  have h1 := add_txt (as := a) (bs := b) (by omega)
  have h2 := sortSet_txt (ws := a ++ b) (by rw [List.length_append]; exact h)
  unfold f_joined b_joined
  simp [h1, h2, tupN]
  rfl
theorem within_ev (a b : List Str) (ha : a.length ≤ 16777216) (st : Store) : f_within [tS a, tS b] st = .ok (.bl (decide (lackS a b = []))) st := by
  have h1 := lacking_ev a b ha st
  have h2 := eq_txt (lackS a b) []
  have h2' : eq2 (tS (lackS a b)) (.tup []) = some (.bl (decide (lackS a b = []))) := h2
  unfold f_within b_within
  simp only [tS] at h1 h2' ⊢
  simp [h1, szT, h2', -eq_nilT]
/-! ### words out of a menu that rises -/
theorem sub_filter {M : List Str} (nd : M.Nodup) : ∀ {a : List Str}, a.Sublist M → a = M.filter fun x => decide (x ∈ a) := by
  intro a h
  induction h with
  | slnil => rfl
  | cons m h ih =>
    rename_i a M'
    obtain ⟨n1, n2⟩ := List.nodup_cons.mp nd
    have hm : m ∉ a := fun z => n1 (h.subset z)
    rw [List.filter_cons, if_neg (by simpa using hm)]
    exact ih n2
  | cons_cons m h ih =>
    rename_i a M'
    obtain ⟨n1, n2⟩ := List.nodup_cons.mp nd
    rw [List.filter_cons, if_pos (by simp)]
    congr 1
    rw [ih n2]
    apply List.filter_congr
    intro x hx
    have hxm : x ≠ m := fun z => n1 (z ▸ hx)
    have q := ih n2
    simp [hxm]
    exact fun z => h.subset z
theorem filter_sub {M a : List Str} (nd : M.Nodup) (h : a.Sublist M) (p : Str → Bool) : a.filter p = M.filter fun x => decide (x ∈ a) && p x := by
  conv => lhs; rw [sub_filter nd h]
  rw [List.filter_filter]
  apply List.filter_congr
  intro x _
  rw [Bool.and_comm]
theorem join_sub {M a b : List Str} (nd : M.Nodup) (so : M.Pairwise leS) (ha : ∀ x ∈ a, x ∈ M) (hb : ∀ x ∈ b, x ∈ M) : joinS a b = M.filter fun x => decide (x ∈ a) || decide (x ∈ b) := by
  unfold joinS
  refine List.Perm.eq_of_pairwise (fun _ _ _ _ p q => leS_anti p q) (sort_sorted _) (so.filter _) ((sort_perm _).trans ?_)
  refine (List.perm_ext_iff_of_nodup (ded_nodup _) (nd.filter _)).mpr fun x => ?_
  rw [ded_mem, List.mem_append, List.mem_filter]
  rw [Bool.or_eq_true, decide_eq_true_eq, decide_eq_true_eq]
  constructor
  · rintro (h | h)
    · exact ⟨ha x h, .inl h⟩
    · exact ⟨hb x h, .inr h⟩
  · exact fun h => h.2
end C
namespace C
open PySem L2 D
/-! ### the menu of ten words -/
def menuS : List Str := [Str.ofString "a", Str.ofString "ab", Str.ofString "b", Str.ofString "gate", Str.ofString "open", Str.ofString "pay", Str.ofString "paying", Str.ofString "z", Str.ofString "zz", Str.ofString "zzzzzzzz"]
theorem menu_nodup : menuS.Nodup := by decide +kernel
theorem menu_words : ∀ w ∈ menuS, isWordS w = true := by decide +kernel
theorem menu_valid : ∀ w ∈ menuS, valid w = true := by decide +kernel
def risesL : List Str → Bool
  | x :: y :: r => !ltC y x && risesL (y :: r)
  | _ => true
theorem rises_pw : ∀ l : List Str, risesL l = true → l.Pairwise leS
  | [], _ => List.Pairwise.nil
  | [x], _ => List.pairwise_singleton _ _
  | x :: y :: r, h => by
    unfold risesL at h
    rw [Bool.and_eq_true, Bool.not_eq_true'] at h
    have ih := rises_pw (y :: r) h.2
    have hxy : leS x y := (leS_iff x y).mpr h.1
    refine List.pairwise_cons.mpr ⟨fun z hz => ?_, ih⟩
    rcases List.mem_cons.mp hz with e | e
    · subst e; exact hxy
    · exact leS_trans hxy ((List.pairwise_cons.mp ih).1 z e)
theorem menu_rises : menuS.Pairwise leS := rises_pw _ (by decide +kernel)
def someS (n : Int) : List Str := ((List.range 10).filter fun i => decide (n / (2 ^ i) % 2 = 1)).map fun i => menuS.getD i Str.empty
theorem some_sub (n : Int) : (someS n).Sublist menuS := by
  have e : (List.range 10).map (fun i => menuS.getD i Str.empty) = menuS := by decide +kernel
  conv => rhs; rw [← e]
  exact List.filter_sublist.map _
theorem some_len (n : Int) : (someS n).length ≤ 10 := (some_sub n).length_le
def b_l_menu : DS := (sSeq (sRet (appN szL (acons (cst (.str (Str.ofString "a"))) (acons (cst (.str (Str.ofString "ab"))) (acons (cst (.str (Str.ofString "b"))) (acons (cst (.str (Str.ofString "gate"))) (acons (cst (.str (Str.ofString "open"))) (acons (cst (.str (Str.ofString "pay"))) (acons (cst (.str (Str.ofString "paying"))) (acons (cst (.str (Str.ofString "z"))) (acons (cst (.str (Str.ofString "zz"))) (acons (cst (.str (Str.ofString "zzzzzzzz"))) anil)))))))))))) sNil)
def f_l_menu : List U → Store → Rs U := runB 0 0 b_l_menu
def b_l_some : DS := (sSeq (sSet 2 (slD (appU f_l_menu anil) noO (soO (var 1)))) (sSeq (sRet (appN tupN (acons (newL (compD (itA rng1 (acons (appN lenN (acons (var 2) anil)) anil)) [3] (tgN 3) (tst (bin eq2 (bin mod2 (bin fdiv2 (var 0) (bin shl2 (cst (.int 1)) (var 3))) (cst (.int 2))) (cst (.int 1)))) (bin ix2 (var 2) (var 3)))) anil))) sNil))
def f_l_some : List U → Store → Rs U := runB 4 2 b_l_some
theorem menu_ev (st : Store) : f_l_menu [] st = .ok (lS menuS) st := (rfl)
theorem menu_at (i : Nat) (h : i < 10) : ix2 (lS menuS) (.int (i : Int)) = some (.str (menuS.getD i Str.empty)) := by
  have hl : i < menuS.length := h
  rw [List.getD_eq_getElem?_getD, List.getElem?_eq_getElem hl]
  exact atI_at (l := menuS.map U.str) (by rw [List.getElem?_map, List.getElem?_eq_getElem hl]; rfl)
theorem two_pow (i : Nat) (h : i < 10) : (0 : Int) < 2 ^ i ∧ (2 : Int) ^ i < 1073741824 := by
  have : i = 0 ∨ i = 1 ∨ i = 2 ∨ i = 3 ∨ i = 4 ∨ i = 5 ∨ i = 6 ∨ i = 7 ∨ i = 8 ∨ i = 9 := by omega
  rcases this with rfl | rfl | rfl | rfl | rfl | rfl | rfl | rfl | rfl | rfl <;> decide
theorem some_ev (n : Int) (st : Store) : f_l_some [.int n, .int 10] st = .ok (tS (someS n)) st := by
  have hc : compL (tgN 3) (tst (D.bin eq2 (D.bin mod2 (D.bin fdiv2 (var 0) (D.bin shl2 (cst (.int 1)) (var 3))) (cst (.int 2))) (cst (.int 1)))) (D.bin ix2 (var 2) (var 3)) ((List.range 10).map fun i => U.int (i : Nat)) [.val (.int n), .val (.int 10), .val (lS menuS), .un] st = .ok ((someS n).map U.str) st := by
    unfold someS
    rw [List.map_map]
    refine comp_filterM (List.range 10) fun i hi => ?_
    have hi := List.mem_range.mp hi
    have h1 := menu_at i hi
    obtain ⟨h2, h3⟩ := two_pow i hi
    have h4 : (0 : Int) ≤ (i : Int) ∧ (i : Int) ≤ 1000000 := by omega
    generalize lS menuS = m at h1
    refine ⟨_, rfl, ?_, fun _ => ?_⟩
    · simp [shl2, h4, fdiv2, h2, h3, mod2]
    · simp [h1]
  have h10 : sl3 (lS menuS) none (some 10) = some (lS menuS) := rfl
  have hl : lenN [lS menuS] = some (.int 10) := rfl
  have hm := menu_ev st
  generalize lS menuS = m at *
  have hr' : rng1 [U.int 10] = some ((List.range 10).map fun i => U.int (i : Nat)) := rng1_nat 10 (by decide)
  unfold f_l_some b_l_some
  simp [hm, h10, hl, hr', wipeE]
  simp [hc, tupN]
theorem sub_valid {a : List Str} (h : a.Sublist menuS) : ∀ w ∈ a, valid w = true := fun w hw => menu_valid w (h.subset hw)
end C
namespace C
open PySem L2 D
/-! ### rows -/
def tab_PARTS : List (Str × U) := [(Str.ofString "set", (.tup [(.str (Str.ofString "word")), (.str (Str.ofString "number"))])), (Str.ofString "same", (.tup [(.str (Str.ofString "word")), (.str (Str.ofString "word"))])), (Str.ofString "sum", (.tup [(.str (Str.ofString "word")), (.str (Str.ofString "word")), (.str (Str.ofString "word"))])), (Str.ofString "less", (.tup [(.str (Str.ofString "word")), (.str (Str.ofString "word")), (.str (Str.ofString "word"))])), (Str.ofString "hold", (.tup [(.str (Str.ofString "word")), (.str (Str.ofString "word")), (.str (Str.ofString "args"))])), (Str.ofString "call", (.tup [(.str (Str.ofString "word")), (.str (Str.ofString "word")), (.str (Str.ofString "args")), (.str (Str.ofString "leaves"))])), (Str.ofString "last", (.tup [(.str (Str.ofString "word")), (.str (Str.ofString "args")), (.str (Str.ofString "leaves"))])), (Str.ofString "give", (.tup [(.str (Str.ofString "word"))])), (Str.ofString "keep", (.tup [(.str (Str.ofString "word")), (.str (Str.ofString "word"))])), (Str.ofString "kept", (.tup [(.str (Str.ofString "word")), (.str (Str.ofString "word"))])), (Str.ofString "skip", (.tup [(.str (Str.ofString "word")), (.str (Str.ofString "over"))])), (Str.ofString "over", (.tup [(.str (Str.ofString "over"))])), (Str.ofString "on", (.tup [])), (Str.ofString "count", (.tup [])), (Str.ofString "ask", (.tup [(.str (Str.ofString "word")), (.str (Str.ofString "over"))])), (Str.ofString "deed", (.tup [(.str (Str.ofString "word")), (.str (Str.ofString "word"))])), (Str.ofString "done", (.tup [(.str (Str.ofString "word")), (.str (Str.ofString "word"))]))]
def b_are_args : DS := (sSeq (sRet (andV (appN isiN (acons (var 0) (acons (cst (.ty "tuple")) anil))) (andV (bin le2 (appN lenN (acons (var 0) anil)) (cst (.int 4))) (appN allN (acons (newL (compD (itemsD (var 0)) [1] (tgN 1) yesT (appU f_is_word (acons (var 1) anil)))) anil))))) sNil)
def f_are_args : List U → Store → Rs U := runB 2 1 b_are_args
def b_is_whole : DS := (sSeq (sRet (andV (appN isiN (acons (var 0) (acons (cst (.ty "int")) anil))) (notV (appN isiN (acons (var 0) (acons (cst (.ty "bool")) anil)))))) sNil)
def f_is_whole : List U → Store → Rs U := runB 1 1 b_is_whole
def b_is_number : DS := (sSeq (sRet (andV (appU f_is_whole (acons (var 0) anil)) (bin le2 (appN absN (acons (var 0) anil)) (cst (.int 1000000000000000000))))) sNil)
def f_is_number : List U → Store → Rs U := runB 1 1 b_is_number
def b_is_part : DS := (sSeq (sIf (tst (bin eq2 (var 0) (cst (.str (Str.ofString "word"))))) (sSeq (sRet (appU f_is_word (acons (var 1) anil))) sNil) sNil) (sSeq (sIf (tst (bin eq2 (var 0) (cst (.str (Str.ofString "number"))))) (sSeq (sRet (appU f_is_number (acons (var 1) anil))) sNil) sNil) (sSeq (sIf (tst (bin eq2 (var 0) (cst (.str (Str.ofString "args"))))) (sSeq (sRet (appU f_are_args (acons (var 1) anil))) sNil) sNil) (sSeq (sIf (tst (bin eq2 (var 0) (cst (.str (Str.ofString "leaves"))))) (sSeq (sRet (appU f_are_leaves (acons (var 1) anil))) sNil) sNil) (sSeq (sRet (andV (appU f_is_whole (acons (var 1) anil)) (bin gt2 (var 1) (cst (.int 0))))) sNil)))))
def f_is_part : List U → Store → Rs U := runB 2 2 b_is_part
def b_is_row : DS := (sSeq (sIf (orT (notT (tst (appN isiN (acons (var 0) (acons (cst (.ty "tuple")) anil))))) (orT (tst (bin eq2 (var 0) (appN szT anil))) (notT (tst (appN isiN (acons (bin ix2 (var 0) (cst (.int 0))) (acons (cst (.ty "str")) anil))))))) (sSeq (sRet (cst (.bl false))) sNil) sNil) (sSeq (sIf (orT (tst (ap1 (tabNot tab_PARTS) (bin ix2 (var 0) (cst (.int 0))))) (tst (bin ne2 (appN lenN (acons (var 0) anil)) (bin add2 (appN lenN (acons (ap1 (tabGet tab_PARTS) (bin ix2 (var 0) (cst (.int 0)))) anil)) (cst (.int 1)))))) (sSeq (sRet (cst (.bl false))) sNil) sNil) (sSeq (sRet (appN allN (acons (newL (compD (itA zipN (acons (ap1 (tabGet tab_PARTS) (bin ix2 (var 0) (cst (.int 0)))) (acons (slD (var 0) (soO (cst (.int 1))) noO) anil))) [1, 2] (tgT [1, 2]) yesT (appU f_is_part (acons (var 1) (acons (var 2) anil))))) anil))) sNil)))
def f_is_row : List U → Store → Rs U := runB 3 1 b_is_row
theorem isi_ev {u : U} {t n : String} (ht : tyU u = some t) (hn : n ∈ tyNames) : isiN [u, .ty n] = some (.bl (isB t n)) := by
  simp [isiN, ht, hn]
def wholeU : U → Bool
  | .int _ => true
  | _ => false
def numbU : U → Bool
  | .int i => decide (-1000000000000000000 ≤ i ∧ i ≤ 1000000000000000000)
  | _ => false
def overU : U → Bool
  | .int i => decide (0 < i)
  | _ => false
def argsU : U → Bool
  | .tup us => decide (us.length ≤ 4) && us.all wordU
  | _ => false
def tame1 : U → Bool
  | .tup us => us.all tame
  | u => tame u
def tame2 : U → Bool
  | .tup us => us.all tame1
  | u => tame u
theorem tame1_ty {u : U} (h : tame1 u = true) : ∃ t, tyU u = some t := by
  cases u <;> first | exact ⟨_, rfl⟩ | cases h
theorem tame1_tame {u : U} (h : tame1 u = true) : tame u = true := by
  cases u <;> first | exact h | rfl
theorem is_whole_ev {u : U} {t : String} (h : tyU u = some t) (st : Store) : f_is_whole [u] st = .ok (.bl (wholeU u)) st := by
  unfold f_is_whole b_is_whole
  cases u <;> first | cases h | skip
  all_goals simp [isiN, tyU, tyNames, isB, wholeU]
theorem is_number_ev {u : U} {t : String} (h : tyU u = some t) (st : Store) : f_is_number [u] st = .ok (.bl (numbU u)) st := by
  have e := is_whole_ev h st
  unfold f_is_number b_is_number
  cases u <;> first | cases h | skip
  case int i =>
    have q : ((if i < 0 then -i else i) ≤ 1000000000000000000) ↔ (-1000000000000000000 ≤ i ∧ i ≤ 1000000000000000000) := by split <;> omega
    simp [e, wholeU, absN, le2, numbU, q]
  all_goals simp [e, wholeU, numbU]
theorem all_bls (bs : List Bool) : allN [.lst (bs.map U.bl)] = some (.bl (bs.all id)) := by
  simp [allN, bools_map]
theorem are_args_ev {u : U} (h : tame1 u = true) (st : Store) : f_are_args [u] st = .ok (.bl (argsU u)) st := by
  unfold f_are_args b_are_args
  cases u <;> first | cases h | skip
  case tup us =>
    have h' : us.all tame = true := h
    rw [List.all_eq_true] at h'
    by_cases h4 : us.length ≤ 4
    · have i4 : (us.length : Int) ≤ 4 := by omega
      have hz : us.length ≤ 16777216 := by omega
      have hc : compL (tgN 1) yesT (appU f_is_word (acons (var 1) anil)) (us.map id) [.val (.tup us), .un] st = .ok (us.map fun u => U.bl (wordU u)) st :=
        comp_allM us fun u hu => ⟨_, rfl, by simp [is_word_any (h' u hu) st]⟩
      rw [List.map_id] at hc
      have ha := all_bls (us.map wordU)
      rw [List.map_map] at ha
      have ha' : allN [.lst (us.map fun u => U.bl (wordU u))] = some (.bl (us.all wordU)) := by
        rw [show (fun u => U.bl (wordU u)) = U.bl ∘ wordU from rfl, ha, List.all_map]
        rfl
      have it : items (.tup us) = some us := rfl
      simp [isiN, tyU, tyNames, isB, lenN, le2, i4, it, hz, wipeE, hc, ha', argsU, h4]
    · have i4 : ¬ (us.length : Int) ≤ 4 := by omega
      simp [isiN, tyU, tyNames, isB, lenN, le2, i4, argsU, h4]
  all_goals simp [isiN, tyU, tyNames, isB, argsU]
theorem are_leaves_ev {u : U} (h : tame1 u = true) (st : Store) : f_are_leaves [u] st = .ok (.bl (areL u)) st := by
  cases u <;> first | cases h | skip
  case tup us => exact are_leaves_tup us h st
  all_goals exact are_leaves_no rfl (by decide) st
abbrev wWord : Str := Str.ofString "word"
abbrev wNumber : Str := Str.ofString "number"
abbrev wArgs : Str := Str.ofString "args"
abbrev wLeaves : Str := Str.ofString "leaves"
def partU (s : Str) (u : U) : Bool := if s = wWord then wordU u else if s = wNumber then numbU u else if s = wArgs then argsU u else if s = wLeaves then areL u else overU u
theorem is_part_ev (s : Str) {u : U} (h : tame1 u = true) (st : Store) : f_is_part [.str s, u] st = .ok (.bl (partU s u)) st := by
  obtain ⟨t, ht⟩ := tame1_ty h
  have e1 := is_word_any (tame1_tame h) st
  have e2 := is_number_ev ht st
  have e3 := are_args_ev h st
  have e4 := are_leaves_ev h st
  have e5 := is_whole_ev ht st
  unfold f_is_part b_is_part partU
  by_cases q1 : s = wWord
  · simp [q1, e1]
  · by_cases q2 : s = wNumber
    · simp [q2, e2]
    · by_cases q3 : s = wArgs
      · simp [q3, e3]
      · by_cases q4 : s = wLeaves
        · simp [q4, e4]
        · simp only [wWord, wNumber, wArgs, wLeaves] at q1 q2 q3 q4
          cases u <;> first | (simp [q1, q2, q3, q4, e5, wholeU, gt2, overU]; done) | cases h
def tabS : List (Str × List Str) := [(Str.ofString "set", [wWord, wNumber]), (Str.ofString "same", [wWord, wWord]), (Str.ofString "sum", [wWord, wWord, wWord]), (Str.ofString "less", [wWord, wWord, wWord]), (Str.ofString "hold", [wWord, wWord, wArgs]), (Str.ofString "call", [wWord, wWord, wArgs, wLeaves]),
  (Str.ofString "last", [wWord, wArgs, wLeaves]), (Str.ofString "give", [wWord]), (Str.ofString "keep", [wWord, wWord]), (Str.ofString "kept", [wWord, wWord]), (Str.ofString "skip", [wWord, Str.ofString "over"]), (Str.ofString "over", [Str.ofString "over"]), (Str.ofString "on", []), (Str.ofString "count", []),
  (Str.ofString "ask", [wWord, Str.ofString "over"]), (Str.ofString "deed", [wWord, wWord]), (Str.ofString "done", [wWord, wWord])]
theorem tab_eq : tab_PARTS = tabS.map fun p => (p.1, tS p.2) := rfl
def lookS (w : Str) : Option (List Str) := (tabS.find? fun p => decide (p.1 = w)).map (·.2)
theorem tab_at (w : Str) : tabAt tab_PARTS w = (lookS w).map tS := by
  unfold tabAt lookS
  rw [tab_eq, List.find?_map, Option.map_map, Option.map_map]
  rfl
theorem look_len {w : Str} {ss : List Str} (h : lookS w = some ss) : ss.length ≤ 4 := by
  unfold lookS at h
  rw [Option.map_eq_some_iff] at h
  obtain ⟨p, h1, rfl⟩ := h
  have := List.mem_of_find?_eq_some h1
  have all : ∀ p ∈ tabS, p.2.length ≤ 4 := by decide
  exact all p this
def rowU : U → Bool
  | .tup (.str w :: ps) => match lookS w with
    | some ss => decide (ps.length = ss.length) && (List.zipWith partU ss ps).all id
    | none => false
  | _ => false
theorem zipU_txt (ss : List Str) (ps : List U) : zipU (ss.map U.str) ps = (ss.zip ps).map fun p => U.tup [.str p.1, p.2] := by
  unfold zipU
  rw [List.zipWith_map_left, ← List.map_zipWith, List.zip]
  induction ss generalizing ps with
  | nil => rfl
  | cons s ss ih => cases ps with
    | nil => rfl
    | cons p ps => simp [ih]
theorem isEmpty_cons {A : Type} (a : A) (l : List A) : (a :: l).isEmpty = false := rfl
theorem cut_tail {A : Type} (a : A) (l : List A) : cutL (a :: l) (some 1) none = l := by
  unfold cutL
  rw [HT.sIx_none, show ((1 : Int)) = ((1 : Nat) : Int) from rfl, HT.sIx_nat]
  simp
set_option maxHeartbeats 2000000 in
theorem is_row_ev {u : U} (h : tame2 u = true) (st : Store) : f_is_row [u] st = .ok (.bl (rowU u)) st := by
  unfold f_is_row b_is_row
  cases u <;> first | cases h | skip
  case tup us =>
    cases us with
    | nil => simp [rowU]
    | cons x ps =>
      have h' : (x :: ps).all tame1 = true := h
      rw [List.all_eq_true] at h'
      obtain ⟨t, ht⟩ := tame1_ty (h' x (List.mem_cons_self ..))
      have ix0 : ix2 (.tup (x :: ps)) (.int 0) = some x := ix_tup (us := x :: ps) (k := 0) rfl
      by_cases hs : t = "str"
      · subst hs
        obtain ⟨w, rfl⟩ : ∃ w, x = .str w := by
          cases x with
          | str w => exact ⟨w, rfl⟩
          | _ => simp [tyU] at ht
        have ht2 := tab_at w
        cases hl : lookS w with
        | none =>
          rw [hl] at ht2
          simp [tabNot, ht2, rowU, hl]
        | some ss =>
          rw [hl] at ht2
          have ht2 : tabAt tab_PARTS w = some (tS ss) := ht2
          have h4 := look_len hl
          have sl1 : sl3 (.tup (.str w :: ps)) (some 1) none = some (.tup ps) := by
            unfold sl3
            simp only
            rw [cut_tail]
          have hc : compL (tgT [1, 2]) yesT (appU f_is_part (acons (var 1) (acons (var 2) anil))) (zipU (ss.map U.str) ps) [.val (.tup (.str w :: ps)), .un, .un] st = .ok ((ss.zip ps).map fun p => U.bl (partU p.1 p.2)) st := by
            rw [zipU_txt]
            refine comp_allM (ss.zip ps) fun p hp => ⟨_, rfl, ?_⟩
            have := is_part_ev p.1 (h' p.2 (List.mem_cons_of_mem _ (List.of_mem_zip hp).2)) st
            simp [this]
          have ha := all_bls ((ss.zip ps).map fun p => partU p.1 p.2)
          rw [List.map_map] at ha
          have hz : List.zipWith partU ss ps = (ss.zip ps).map fun p => partU p.1 p.2 := by
            rw [List.zip, List.map_zipWith]
          have zl : (zipU (ss.map U.str) ps).length ≤ 16777216 := by
            unfold zipU
            rw [List.length_zipWith, List.length_map]
            omega
          have hn : ∀ a b : Nat, (decide ((a : Int) + 1 = (b : Int) + 1)) = decide (a = b) := fun a b => by
            by_cases q : a = b
            · simp [q]
            · have : ¬ ((a : Int) + 1 = (b : Int) + 1) := by omega
              simp [q]; omega
          have hx : ((ps.length : Int) + 1 = (ss.length : Int) + 1) ↔ ps.length = ss.length := by omega
          by_cases q : ps.length = ss.length
          · have ha' : allN [.lst ((ss.zip ps).map fun p => U.bl (partU p.1 p.2))] = some (.bl (((ss.zip ps).map fun p => partU p.1 p.2).all id)) := ha
            simp only [tS] at *
            simp [tabNot, tabGet, ht2, q, zl, wipeE, hc, ha', rowU, hl, hz, -List.all_map]
          · simp only [tS] at *
            simp [tabNot, tabGet, ht2, q, rowU, hl, hx]
      · have e1 : isiN [x, .ty "str"] = some (.bl false) := by rw [isi_ev ht (by decide)]; simp [isB, hs]
        have e2 : rowU (.tup (x :: ps)) = false := by
          cases x <;> first | rfl | skip
          cases ht; exact absurd rfl hs
        have e3 : isiN [.tup (x :: ps), .ty "tuple"] = some (.bl true) := rfl
        simp [e1, e2]
  all_goals simp [rowU]
end C
namespace D
open PySem L2
/-! ### a list of the frame's own that is looked into, and stays its own -/
def ownL : Option Sl → Option (List U)
  | some (.own us) => some us
  | some (.val (.lst us)) => some us
  | _ => none
def flat1 (o : Option U) : Option U := match o with
  | some u => if flatU u then some u else none
  | none => none
def binO (g : U → U → Option U) (fa : DE) (i : Nat) : DE := fun env st => (fa env st).bind fun u st1 => Rs.of ((ownL env[i]?).bind fun us => flat1 (g u (.lst us))) st1
def lenO (i : Nat) : DE := fun env st => Rs.of ((ownL env[i]?).bind fun us => flat1 (lenN [.lst us])) st
theorem flat_any {K : PySem.W.Frag} {W W' : Addr → Prop} {io io' : List Addr} {H H' : Hp} {u : U} {v : V} (h : flatU u = true) (r : Rep K W io H u v) : Rep K W' io' H' u v := by
  cases u <;> first | (unfold Rep at r ⊢; exact r) | cases h
theorem own_look {K : PySem.W.Frag} {G : Addr → Prop} {io : List Addr} {st : Store} {H : Hp} {env : Env} {sg : L2.St} {i : Nat} {us : List U} (ok : Ok K G io st H) (er : EnvRep K G io H env sg) (h : ownL env[i]? = some us) :
    ∃ v G', sg[i]? = some (some v) ∧ (∀ b, G' b → G b) ∧ Ok K G' io st H ∧ Rep K (Wf G' io) io H (.lst us) v := by
  have hi : ∀ s, env[i]? = some s → ∃ o, sg[i]? = some o := fun s e => by
    have hl : i < sg.length := by rw [← er.len]; exact (List.getElem?_eq_some_iff.mp e).1
    exact ⟨_, List.getElem?_eq_getElem hl⟩
  unfold ownL at h
  split at h
  · rename_i ws e
    cases h
    obtain ⟨o, ho⟩ := hi _ e
    obtain ⟨a, vs, rfl, q2, q3, q4⟩ := er.sl i _ o e ho
    have sub : ∀ b, (fun b => G b ∧ b ≠ a) b → G b := fun b z => z.1
    have m : Mono G io H (fun b => G b ∧ b ≠ a) io H := ⟨⟨[], by simp⟩, fun b o n z => ⟨z, fun y => n (y.imp (fun w => w.1) id)⟩⟩
    refine ⟨.ref a, _, ho, sub, ok.mono sub, ?_⟩
    unfold Rep
    exact ⟨a, vs, rfl, ⟨q3, fun z => z.elim (fun w => w.2 rfl) fun w => ok.dj a w q2⟩, q4.mono m⟩
  · rename_i ws e
    cases h
    obtain ⟨o, ho⟩ := hi _ e
    obtain ⟨v, rfl, q⟩ := er.sl i _ o e ho
    exact ⟨v, G, ho, fun _ z => z, ok, q⟩
  · cases h
theorem flat1_of {o : Option U} {u : U} (h : flat1 o = some u) : o = some u ∧ flatU u = true := by
  unfold flat1 at h
  split at h
  · split at h
    · rename_i q; cases h; exact ⟨rfl, q⟩
    · cases h
  · cases h
section
variable {X : Cx} {xs : XS} {wx : WX} {pos : Pos}
theorem binO_read {g : U → U → Option U} {fa : DE} {i : Nat} {sg : L2.St} {H : Hp} {Q : VK} (h : tD X.K xs wx (binO g fa i) sg H Q) : tOp (P2 X.K g) (tD X.K xs wx fa) (tVar i) sg H Q := by
  obtain ⟨G, io, st, env, ok, er, w⟩ := h
  refine ⟨G, io, st, env, ok, er, w.bind.impR fun st1 io1 H1 u ok1 e1 w1 v rv => ?_⟩
  obtain ⟨a, ha, w3⟩ := w1.pure
  cases hO : ownL env[i]? with
  | none => rw [hO] at ha; cases ha
  | some us =>
    rw [hO] at ha
    obtain ⟨hg, hf⟩ := flat1_of ha
    obtain ⟨y, G', hy, sub, ok', ry⟩ := own_look ok1 (er.ext ok.dj e1) hO
    have m : Mono G io1 H1 G' io1 H1 := ⟨⟨[], by simp⟩, fun b o n z => ⟨z, fun q => n (q.imp (sub b) id)⟩⟩
    exact ⟨y, hy, G', io1, st1, u, .lst us, a, ok', rv.mono m, ry, hg, fun v' H' s r => w3.hereS ok1 s v' (flat_any hf r)⟩
theorem d_cmpO {op : CmpOp} {g : U → U → Option U} {a b : Expr} {fa : DE} {i : Nat} (ho : OpR X (compareOp op) (P2 X.K g)) (ha : PE X a (tD X.K xs wx fa)) (hb : PE X b (tVar i)) (hm : behindInMarks op b = false := by first | exact nomark _ | rfl) : PE X (.Compare a [op] [b] pos) (tD X.K xs wx (binO g fa i)) :=
  pe_imp (pe_cmpR ho ha hb hm) fun _ _ _ h => binO_read h
theorem t_cmpO {op : CmpOp} {g : U → U → Option U} {a b : Expr} {fa : DE} {i : Nat} (ho : OpR X (compareOp op) (P2 X.K g)) (ha : PE X a (tD X.K xs wx fa)) (hb : PE X b (tVar i)) (hm : behindInMarks op b = false := by first | exact nomark _ | rfl) :
    PT X (.Compare a [op] [b] pos) (tDT X.K xs wx (tst (binO g fa i))) := pt_imp (pt_cmpR ho ha hb hm) fun sg H Q h => by
  obtain ⟨G, io, st, env, ok, er, w⟩ := h
  refine binO_read (Q := fun x H1 => ∃ k, x = .bl k ∧ Q k H1) ?_
  exact tst_read (t := tVar 0) ⟨G, io, st, env, ok, er, w⟩
end
@[simp] theorem binO_ap (g : U → U → Option U) (fa : DE) (i : Nat) (env : Env) (st : Store) : binO g fa i env st = (fa env st).bind fun u st1 => Rs.of ((ownL env[i]?).bind fun us => flat1 (g u (.lst us))) st1 := (rfl)
@[simp] theorem ownL_own (us : List U) : ownL (some (.own us)) = some us := (rfl)
@[simp] theorem ownL_val (us : List U) : ownL (some (.val (.lst us))) = some us := (rfl)
@[simp] theorem flat1_bl (b : Bool) : flat1 (some (.bl b)) = some (.bl b) := (rfl)
@[simp] theorem flat1_int (b : Int) : flat1 (some (.int b)) = some (.int b) := (rfl)
end D
namespace D
open PySem L2
/-! ### what was caught stays as an object -/
section
variable {X : Cx} {pins pn' : List (Addr × Obj)} {sg : L2.St} {H : Hp} {s : Shared}
theorem exk_ok {P : Program} {w : World} {H : Hp} {h : Heap} {a : Addr} {cls : Value} {d : Option Addr} {oe : Obj} {vs : Array Value} (e : h.get? a = some oe) (z : Zc cls d oe) (q : oe.data = .fields vs) : ObjOk P w H h a (exk cls d a) :=
  ⟨⟨oe, vs, e, z, q⟩, ⟨oe, e⟩, fun _ _ ⟨o, v, y, r⟩ k => ⟨o, v, k o y, r⟩⟩
theorem track (I : Inv X pins sg H s) {a : Addr} {o : HO} (na : H a = none) (n0 : X.s_0.heap.get? a = none) (nL : a ≠ X.env.locals) (nC : ∀ v, ¬ s.heap.IsCell a v) (np : ∀ p ∈ X.pn ++ pins, p.1 ≠ a) (new : ObjOk X.prog X.w (upd H a o) s.heap a o) : Inv X pins sg (upd H a o) s := by
  have ne : ∀ b u, H b = some u → b ≠ a := fun b u h => ne_of_none h na
  have cne : ∀ x c, X.env.cells.lookup x = some c → c ≠ a := fun x c e z => by
    obtain ⟨v, q⟩ := I.cell x c e
    subst z
    exact nC v q
  refine ⟨I.ok, I.os, I.bare, ⟨I.base.keep, I.base.slot, fun b u q n x => ?_, I.base.there, fun b xs q => ?_, fun b u v q => ?_, fun b ps q => ?_⟩, I.loc, I.cell, ?_, fun x c e => ?_, fun p hp => ?_, fun b u e => ?_, I.len⟩
  · rw [upd_ne (fun z => by rw [z, n0] at q; cases q)]
    exact I.base.free b u q n x
  · have z := I.base.tups b xs q
    rw [upd_ne (ne _ _ z)]; exact z
  · have z := I.base.frzs b u v q
    rw [upd_ne (ne _ _ z)]; exact z
  · obtain ⟨m, z⟩ := I.base.tbls b ps q
    exact ⟨m, by rw [upd_ne (ne _ _ z)]; exact z⟩
  · rw [upd_ne (Ne.symm nL)]; exact I.free
  · rw [upd_ne (cne x c e)]; exact I.freeC x c e
  · obtain ⟨e, n, r⟩ := I.pin p hp
    exact ⟨e, by rw [upd_ne (np p hp)]; exact n, r⟩
  · by_cases hb : b = a
    · subst hb
      rw [upd_same] at e
      cases e
      exact new
    · rw [upd_ne hb] at e
      exact (I.hok b u e).stay (fun c v _ q => q) (fun c q => by rw [upd_ne (ne _ _ q)]; exact q) fun c xs q => by rw [upd_ne (ne _ _ q)]; exact q
end
/-- what 'except x as n: y = n' wishes of an exception of the body -/
def wKeep (K : PySem.W.Frag) (c : Value) (i j : Nat) (Wout : WX) (D : Ends) : WX := fun cls d sg H =>
  ∃ b, PySem.W.exmOne K cls c = some b ∧ (b = true → ∀ a, H a = none → D.nx (((sg.set i (some (.ref a))).set j (some (.ref a))).set i none) (upd H a (exk cls d a))) ∧ (b = false → Wout cls d sg H)
section
variable {X : Cx} {x n y : Str} {c : Value} {i j : Nat} {body : List Stmt} {np p1 p2 p3 pos pos' : Pos} {tb : WX → TS} {Wout : WX}
theorem ps_try_keep (hs : X.stack = X.env :: X.outer) (hf : X.env.frame = some X.env.locals) (hex : X.ex = []) (hN : X.N.Nodup) (hi : X.N[i]? = some n) (hln : X.env.kindOf n = some .local) (hj : X.N[j]? = some y) (hly : X.env.kindOf y = some .local) (hc : Names X x c) (tk : Takes X Wout)
    (hb : ∀ (W : WX) (pn : List (Addr × Obj)) (xe : Value → Shared → Prop), Takes (X.tr pn xe) W → PassesOwn (model X.prog X.w) X.A X.env xe → PSs (X.tr pn xe) body (tb W))
    (hsw : swapsWith (.Name n p2) (some (.Name y p1)) p3.line X.env = Pure.pure false := by rfl) (hd : (n == ("__debug__" : Str)) = false := by decide) (hcd : (n == ("__classdict__" : Str)) = false := by decide) :
    PS X (.Try body [.ExceptHandler (some (.Name x np)) (some n) [.Assign [.Name y p1] (.Name n p2) p3] pos'] [] [] pos) (fun D sg H => tb (wKeep X.K c i j Wout D) D sg H) := by
  refine ⟨fun pins s sg H D I h => ?_⟩
  have ok := I.ok
  have hfr : X.A.frames = some (X.env :: X.outer) := by rw [ok.frames, hs]
  have hloc : Loc X.env.scope n := .inl hln
  refine wpAny_Try_except ?_
  refine wpAny_mono ((hb (wKeep X.K c i j Wout D) (X.pn ++ pins) (fun e s₁ => wpAny (model X.prog X.w) X.A (noteFrame e X.env) (fun _ s₂ => wpAny (model X.prog X.w) X.A (setFlight e none) (fun _ s₃ =>
    wpAny (model X.prog X.w) X.A (handleBy e X.env [.ExceptHandler (some (.Name x np)) (some n) [.Assign [.Name y p1] (.Name n p2) p3] pos']) (SP X pins D) X.xe s₃) X.xe s₂) X.xe s₁) (fun u s' xx => ?_) PassesOwn.looking).run [] s sg H D (I.toTry _) h) (fun f s1 hsp => ?_) (fun e s1 he => he)
  · obtain ⟨a, B, sI, pins', sg', H', cls, d, rfl, J', nb, up, sky, na, os, ag, b, hb1, hyes, hno⟩ := xx
    have J : Inv X pins sg' H' sI := J'.ofTry ok
    have sky' : Sky B (X.env :: X.outer) a (Zc cls d) X.env.locals s'.heap := by rw [← hs]; exact sky
    show wpAny (model X.prog X.w) X.A (noteFrame (.ref a) X.env) _ _ _
    refine Sky.land Zc.steady hfr hf sky' fun h3 fl3 up3 => ?_
    have J3 : Inv X pins sg' H' { s' with heap := h3 } := J.landed nb fl3.1 (up.trans up3) os ag
    obtain ⟨oe3, vs3, he3, hz3, hd3⟩ := fl3.there
    have notFr : ∀ {h : Heap} {o : Obj} {vs : Array Value}, h.FunFrames B (X.env :: X.outer) → h.get? a = some o → o.data = .fields vs → a ∉ frs (X.env :: X.outer) := fun {h o vs} ff e dd hm => by
      obtain ⟨_, o', e', hnf⟩ := ff.mem hm
      rw [e] at e'; cases e'
      exact hnf _ dd
    have nfr := notFr fl3.2.2.1 he3 hd3
    have nL : a ≠ X.env.locals := fun z => nfr (List.mem_filterMap.mpr ⟨X.env, List.mem_cons_self, by rw [hf, z]⟩)
    have nF : a ∉ X.fs := fun hm => by
      obtain ⟨e, he, q⟩ := List.mem_filterMap.mp hm
      exact nfr (List.mem_filterMap.mpr ⟨e, List.mem_cons_of_mem _ he, q⟩)
    have nB : B.get? a = none := fl3.2.1
    have n0 : X.s_0.heap.get? a = none := by
      cases q : X.s_0.heap.get? a with
      | none => rfl
      | some o =>
        obtain ⟨o', q'⟩ := J.base.there a o q (by rw [hex]; exact fun z => nomatch z)
        have z := nb a o' q' (by rw [hs]; exact nfr)
        rw [nB] at z; cases z
    have npn : ∀ p ∈ X.pn ++ pins, p.1 ≠ a := fun p hp z => by
      obtain ⟨e, _, l, f, _⟩ := J.pin p hp
      have q := nb p.1 p.2 e (by
        rw [hs]
        intro hm
        obtain ⟨e0, he0, q0⟩ := List.mem_filterMap.mp hm
        rcases List.mem_cons.mp he0 with z0 | z0
        · subst z0; rw [hf] at q0; exact l (Option.some.inj q0).symm
        · exact f (List.mem_filterMap.mpr ⟨e0, z0, q0⟩))
      rw [z, nB] at q; cases q
    have S3 := J3.suite he3 hd3 na nL nF
    refine wpAny_handleBy_cons (codeAny_handlers_test ?_) (by intro q; cases q)
    have LT : PySem.W.Looks (model X.prog X.w) h3 (typeOf (.ref a)) cls := fun A Q E s k q => wpAny_typeOf_ref (k _ _ he3) (by rw [hz3.1]; exact q)
    have LM := PySem.W.exm_one (M := model X.prog X.w) (J3.kIn) LT hb1
    have test : ∀ {Q : Value → Shared → Prop} {E : Value → Shared → Prop}, Q c { s' with heap := h3 } → wpAny (model X.prog X.w) (X.A.mark (some (.ref a))) (eval (.Name x np) X.env) Q E { s' with heap := h3 } := fun {Q E} q => by
      obtain ⟨hg, hdbg, hm | ⟨hm, hv, hnn⟩⟩ := hc
      · exact ld_glob (X := X.suite a ((a, oe3) :: (X.pn ++ pins))) S3 hg hm q hdbg
      · exact ld_blt (X := X.suite a ((a, oe3) :: (X.pn ++ pins))) S3 hg hm hv q hnn hdbg
    refine test (LM.here ?_)
    cases b with
    | true =>
      refine codeAny_handlers_suite_as ?_
      refine HandSPX.lands_againZ fl3 fun h4 fl4 up4 => ?_
      have J4 : Inv X pins sg' H' { s' with heap := h4 } := J.landed nb fl4.1 ((up.trans up3).trans up4) os ag
      obtain ⟨oe4, vs4, he4, hz4, hd4⟩ := fl4.there
      have S4 := J4.suite he4 hd4 na nL nF
      refine store_ok (X := X.suite a ((a, oe4) :: (X.pn ++ pins))) (v := .ref a) S4 hN hi hloc rfl (fun s5 S5 => ?_) (.inr hln)
      have one : PSs (X.suite a ((a, oe4) :: (X.pn ++ pins))) [.Assign [.Name y p1] (.Name n p2) p3] _ := pss_cons (ps_set (X := X.suite a ((a, oe4) :: (X.pn ++ pins))) hN hj (.inl hly) (pe_var (i := i) hi (.inl hln) hd hcd) hsw (.inr hly)) pss_nil
      have hil : i < sg'.length := by
        rw [J.len]
        exact (List.getElem?_eq_some_iff.mp hi).1
      refine wpAny_mono (one.run [] s5 (sg'.set i (some (.ref a))) H' { nx := fun sg6 H6 => sg6 = (sg'.set i (some (.ref a))).set j (some (.ref a)) ∧ H6 = H', rt := fun _ _ => False, bk := fun _ _ => False, ct := fun _ _ => False } S5 ⟨.ref a, List.getElem?_set_self hil, rfl, rfl⟩) (fun f s6 hsp => ?_) (fun _ _ z => False.elim z)
      cases f with
      | next =>
        obtain ⟨sg6, H6, S6, e1, e2⟩ := hsp
        subst e1; subst e2
        refine gone_ok (X := X.suite a ((a, oe4) :: (X.pn ++ pins))) S6 hN hi hln fun s7 S7 => ?_
        obtain ⟨ha7, _, _, _, nc7⟩ := S7.pin (a, oe4) (List.mem_append_left _ List.mem_cons_self)
        exact ⟨_, _, track (S7.unsuite ok) na n0 nL (fun v z => by obtain ⟨o, z1, z2⟩ := z; rw [ha7] at z1; cases z1; exact nc7 v z2) npn (exk_ok ha7 hz4 hd4), hyes rfl a na⟩
      | brk => obtain ⟨_, _, _, q⟩ := hsp; exact q.elim
      | cont => obtain ⟨_, _, _, q⟩ := hsp; exact q.elim
      | ret u => obtain ⟨_, _, _, _, _, q⟩ := hsp; exact q.elim
    | false =>
      show wpAny _ X.A (handleBy (.ref a) X.env []) _ _ _
      refine wpAny_handleBy_nil ?_
      obtain ⟨k1, k2, k3, oe, vs, T, oT, ts', he, hz, hd, h1, hr⟩ := id fl3
      unfold PySem.passOn
      refine wpAny_bind (wpAny_field he hd h1 ?_)
      rw [if_neg (show ¬ ((Value.ref T == Value.none) = true) from by simp)]
      have fin : wpAny (model X.prog X.w) X.A (setFlight (.ref a) X.env.frame) (fun _ s4 => wpAny (model X.prog X.w) X.A (throw (.ref a) : Sem Flow) (SP X pins D) X.xe s4) X.xe { s' with heap := h3 } := by
        rw [hf]
        refine HandSPX.setFlight_upZ fl3 fun h4 hh4 up4 => wpAny_throw (tk _ _ ?_)
        exact ⟨a, B, sI, pins, sg', H', cls, d, rfl, J, nb, (up.trans up3).trans up4, .inr (.inr (by rw [hs]; exact hh4)), na, os, ag, hno rfl⟩
      first
        | exact wpAny_bind (wpAny_pure (wpAny_bind fin))
        | exact wpAny_bind fin
  · cases f with
    | next =>
      obtain ⟨sg', H', J', q⟩ := hsp
      exact wpAny_execs_nil ⟨sg', H', J'.ofTry ok, q⟩
    | brk =>
      obtain ⟨sg', H', J', q⟩ := hsp
      exact ⟨sg', H', J'.ofTry ok, q⟩
    | cont =>
      obtain ⟨sg', H', J', q⟩ := hsp
      exact ⟨sg', H', J'.ofTry ok, q⟩
    | ret u =>
      obtain ⟨v, sg', H', J', r, q⟩ := hsp
      exact ⟨v, sg', H', J'.ofTry ok, r, q⟩
end
end D
namespace D
open PySem L2
/-! ### the store gets an object -/
section
variable {K : PySem.W.Frag} {F : Addr → Prop} {io : List Addr} {st : Store} {env : Env} {sg : L2.St} {H : Hp}
theorem Fr.alloc (f : Fr K F io st env sg H) {a : Addr} {o : HO} {ob : Ob} (na : H a = none) (hx : NX o) (new : ObRep K (Wf (Gs F env sg) (io ++ [a])) (io ++ [a]) (upd H a o) a ob) :
    Fr K F (io ++ [a]) (st ++ [ob]) env sg (upd H a o) ∧ Ext io H (io ++ [a]) (upd H a o) := by
  have nW : ¬ Wf (Gs F env sg) io a := f.ok.fresh na
  have s : Same H (upd H a o) := same_upd na
  have ex : Ext io H (io ++ [a]) (upd H a o) := ⟨⟨[a], rfl, fun b hb => by rw [List.mem_singleton] at hb; rw [hb]; exact na⟩, fun b u _ h => s b u h, fun b u h => ⟨u, s b u h⟩⟩
  have ok : Ok K (Gs F env sg) (io ++ [a]) (st ++ [ob]) (upd H a o) := by
    refine ⟨?_, fun b hb z => ?_, fun b hb => ?_, by simp [f.ok.len], fun n ob' b e1 e2 => ?_⟩
    · rw [List.nodup_append]
      refine ⟨f.ok.nd, by simp, fun x hx y hy e => ?_⟩
      rw [List.mem_singleton] at hy
      subst hy; subst e
      exact nW (.inr hx)
    · rcases List.mem_append.mp hb with h | h
      · exact f.ok.dj b h z
      · rw [List.mem_singleton] at h; subst h
        exact nW (.inl z)
    · by_cases e : b = a
      · subst e; exact ⟨o, upd_same, hx⟩
      · have hb' : Wf (Gs F env sg) io b := hb.imp id fun z => by
          rcases List.mem_append.mp z with h | h
          · exact h
          · exact (e (List.mem_singleton.mp h)).elim
        obtain ⟨u, q, x⟩ := f.ok.trk b hb'
        exact ⟨u, s b u q, x⟩
    · by_cases hn : n < io.length
      · rw [List.getElem?_append_left hn] at e2
        rw [List.getElem?_append_left (by rw [f.ok.len]; exact hn)] at e1
        exact (f.ok.obs n ob' b e1 e2).mono ex.mono (fun u q => s b u q) fun dd ws q => s _ _ q
      · rw [List.getElem?_append_right (Nat.le_of_not_lt hn)] at e2
        rw [List.getElem?_append_right (by rw [f.ok.len]; exact Nat.le_of_not_lt hn)] at e1
        rw [f.ok.len] at e1
        have h0 : n - io.length = 0 := by
          cases h : n - io.length with
          | zero => rfl
          | succ k => rw [h] at e2; simp at e2
        rw [h0] at e1 e2
        simp only [List.getElem?_cons_zero, Option.some.injEq] at e1 e2
        subst e1; subst e2
        exact new
  exact ⟨f.ext ok ex, ex⟩
theorem ow_set_un {i : Nat} {o : Option V} {a : Addr} (h : Ow (env.set i .un) (sg.set i o) a) : Ow env sg a := by
  obtain ⟨j, us, h1, h2⟩ := h
  by_cases hj : i = j
  · subst hj
    by_cases hl : i < env.length
    · rw [List.getElem?_set_self hl] at h1; cases h1
    · rw [List.getElem?_eq_none (by simpa using Nat.le_of_not_lt hl)] at h1; cases h1
  · rw [List.getElem?_set_ne hj] at h1 h2
    exact ⟨j, us, h1, h2⟩
theorem Fr.setUn (f : Fr K F io st env sg H) (i : Nat) : Fr K F io st (env.set i .un) (sg.set i none) H ∧ ExtO io H (Ow env sg) io H (Ow (env.set i .un) (sg.set i none)) := by
  have sub : ∀ a, Gs F (env.set i .un) (sg.set i none) a → Gs F env sg a := fun a h => h.imp id ow_set_un
  have ex : ExtO io H (Ow env sg) io H (Ow (env.set i .un) (sg.set i none)) := ⟨⟨[], by simp, fun _ h => nomatch h⟩, fun _ _ _ _ h => h, fun _ o h => ⟨o, h⟩, fun a h => .inl (ow_set_un h)⟩
  have m := ex.mono (F := F)
  refine ⟨⟨f.ok.mono sub, ⟨by simp [f.er.len], fun j s o h1 h2 => ?_⟩, fun a h => f.nF a (ow_set_un h), fun j k a us us' h1 h2 h3 h4 => ?_⟩, ex⟩
  · by_cases hj : i = j
    · subst hj
      by_cases hl : i < env.length
      · rw [List.getElem?_set_self hl] at h1
        cases h1
        trivial
      · rw [List.getElem?_eq_none (by simpa using Nat.le_of_not_lt hl)] at h1; cases h1
    · have g1 := h1; have g2 := h2
      rw [List.getElem?_set_ne hj] at h1 h2
      have q := f.er.sl j s o h1 h2
      cases s with
      | un => trivial
      | val u' => obtain ⟨v', q1, q2⟩ := q; exact ⟨v', q1, q2.mono m⟩
      | own us =>
        obtain ⟨a, vs, q1, q2, q3, q4⟩ := q
        subst q1
        exact ⟨a, vs, rfl, .inr ⟨j, us, g1, g2⟩, q3, q4.mono m⟩
  · have nj : ∀ (k : Nat) (us : List U), (env.set i .un)[k]? = some (.own us) → i ≠ k := fun k us h e => by
      subst e
      by_cases hl : i < env.length
      · rw [List.getElem?_set_self hl] at h; cases h
      · rw [List.getElem?_eq_none (by simpa using Nat.le_of_not_lt hl)] at h; cases h
    have n1 := nj j us h1
    have n2 := nj k us' h2
    rw [List.getElem?_set_ne n1] at h1 h3
    rw [List.getElem?_set_ne n2] at h2 h4
    exact f.dd j k a us us' h1 h2 h3 h4
end
/-! ### try -/
/-- exceptions as this layer tells them -/
def XSd (K : PySem.W.Frag) : XS := fun c fs cls d H => ∃ C, clsAt K c = some C ∧ cls = .ref C ∧ XD fs d H
def tabB (l : List (Str × Bool)) (c : Str) : Option Bool := l.lookup c
def TabOk (l : List (Str × Bool)) (P : Str → Bool → Prop) : Prop := ∀ c b, tabB l c = some b → P c b
theorem tab_nil {P : Str → Bool → Prop} : TabOk [] P := fun _ _ h => nomatch h
theorem tab_cons {P : Str → Bool → Prop} {c : Str} {b : Bool} {l : List (Str × Bool)} (h : P c b) (t : TabOk l P) : TabOk ((c, b) :: l) P := fun c' b' e => by
  unfold tabB at e
  rw [List.lookup_cons] at e
  split at e
  · rename_i q
    cases e
    rw [beq_iff_eq.mp q]
    exact h
  · exact t c' b' e
theorem clsAt_of {K : PySem.W.Frag} {c : Str} {C : Addr} (h : PySem.W.nsIn K mainGlobals c = some (some (.ref C))) : clsAt K c = some C := by unfold clsAt; rw [h]
def sTryK (t : List (Str × Bool)) (i j : Nat) (b : DS) : DS := fun env st => match b env st with
  | .ex c fs env' st' => match tabB t c with
    | some true => .nx (((env'.set i (.val (.ref st'.length))).set j (.val (.ref st'.length))).set i .un) (st' ++ [.ins c fs])
    | some false => .ex c fs env' st'
    | none => .bad
  | o => o
section
variable {X : Cx} {wx : WX} {x n y : Str} {c : Value} {i j : Nat} {body : List Stmt} {np p1 p2 p3 pos pos' : Pos}
theorem s_try {t : List (Str × Bool)} {b : DS} (hs : X.stack = X.env :: X.outer) (hf : X.env.frame = some X.env.locals) (hex : X.ex = []) (hN : X.N.Nodup) (hi : X.N[i]? = some n) (hln : X.env.kindOf n = some .local) (hj : X.N[j]? = some y) (hly : X.env.kindOf y = some .local) (hc : Names X x c) (tk : Takes X wx)
    (ht : TabOk t fun k v => ∃ C, clsAt X.K k = some C ∧ PySem.W.exmOne X.K (.ref C) c = some v)
    (hb : ∀ (W : WX) (pn : List (Addr × Obj)) (xe : Value → Shared → Prop), Takes (X.tr pn xe) W → PassesOwn (model X.prog X.w) X.A X.env xe → PSs (X.tr pn xe) body (tDS X.K (XSd X.K) W b))
    (hsw : swapsWith (.Name n p2) (some (.Name y p1)) p3.line X.env = Pure.pure false := by rfl) (hd : (n == ("__debug__" : Str)) = false := by decide) (hcd : (n == ("__classdict__" : Str)) = false := by decide) :
    PS X (.Try body [.ExceptHandler (some (.Name x np)) (some n) [.Assign [.Name y p1] (.Name n p2) p3] pos'] [] [] pos) (tDS X.K (XSd X.K) wx (sTryK t i j b)) :=
  ps_imp (ps_try_keep (tb := fun W => tDS X.K (XSd X.K) W b) hs hf hex hN hi hln hj hly hc tk hb hsw hd hcd) fun D sg H h => by
    obtain ⟨F, io, st, env, fr, w⟩ := h
    refine ⟨F, io, st, env, fr, ?_⟩
    unfold sTryK at w
    cases q : b env st with
    | nx env' st' => rw [q] at w; exact w
    | rt u st' => rw [q] at w; exact w
    | bk env' st' => rw [q] at w; exact w
    | ct env' st' => rw [q] at w; exact w
    | bad => rw [q] at w; exact w
    | ex k fs env' st' =>
      rw [q] at w
      simp only at w
      intro io' sg' H' f' e' cls d hx
      obtain ⟨C, hC, rfl, xd⟩ := hx
      cases hv : tabB t k with
      | none => rw [hv] at w; exact w.elim
      | some v =>
        rw [hv] at w
        obtain ⟨C', hC', hm⟩ := ht k v hv
        rw [hC] at hC'; cases hC'
        refine ⟨v, hm, fun hv' a na => ?_, fun hv' => ?_⟩
        · subst hv'
          have new : ObRep X.K (Wf (Gs F env' sg') (io' ++ [a])) (io' ++ [a]) (upd H' a (exk (.ref C) d a)) a (.ins k fs) := ⟨C, d, hC, upd_same, xd.keep fun dd ws z => same_upd na _ _ z⟩
          obtain ⟨f1, e1⟩ := f'.alloc na nx_exk new
          have rr : ∀ (W : Addr → Prop), Rep X.K W (io' ++ [a]) (upd H' a (exk (.ref C) d a)) (.ref st'.length) (.ref a) := fun W => by
            unfold Rep
            refine ⟨a, ?_, rfl⟩
            rw [f'.ok.len, List.getElem?_append_right (Nat.le_refl _)]
            simp
          obtain ⟨f2, e2⟩ := f1.setVal (i := i) (rr _)
          obtain ⟨f3, e3⟩ := f2.setVal (i := j) (rr _)
          obtain ⟨f4, e4⟩ := f3.setUn i
          exact w _ _ _ f4 (((e'.trans (e1.o _)).trans e2).trans (e3.trans e4))
        · subst hv'
          exact w io' sg' H' f' e' _ _ ⟨C, hC, rfl, xd⟩
end
/-! ### isinstance of what was caught -/
section
open PySem.W PySem.Spec PySem.Calls PyProof.Rows
variable {prog : Program} {w : World} {A : Around} {E : Value → Shared → Prop} {s : Shared} {K : Frag} {x D : Addr} {ox : Obj} {od : Option Obj}
theorem findObj_dat {C : Addr} {name : Str} {a g : Value} (hc : (clsIn K C).isSome = true) (ha : findIn K (.ref C) name = some (some a)) (hg : specialIn K a "__get__" = some (some g)) (ht : takesIn K a = some true) : findObj K C od name = some (.bind g a) := by
  obtain ⟨cd, hc⟩ := Option.isSome_iff_exists.mp hc
  unfold findObj
  rw [hc, Option.bind_some, ha, Option.bind_some]
  simp [hg, ht]
theorem cls_exc {Q : Option Value → Shared → Prop} (c : ExcC K D) (X : K.In s.heap) (I : PySem.W.InstAt s.heap x ox D od) (h : Q (some (.ref D)) { s with toks := s.toks + 1 }) : wpAny (model prog w) A (getAttr? (.ref x) "__class__") Q E s := by
  have hf : findObj K D od "__class__" = some (.bind (.builtin "getset_descriptor.__get__") (.builtin "object.__class__")) := findObj_dat (by obtain ⟨cd, hc, _⟩ := any_some c.hd; rw [hc]; rfl) c.ha c.hn c.ht
  obtain ⟨hp, g, d, t, os⟩ := s
  have L0 := I.type (M := model prog w)
  have L1 := looks_findIn (M := model prog w) X c.hg
  have L2 := looks_findIn (M := model prog w) X c.hk
  have L3 := looks_find (M := model prog w) X I hf
  have sub : Looks (model prog w) hp (isInstance (.ref x) (.type "BaseException")) true := L0.andThen (looks_subIn X c.hs)
  have hx0 : (false && onTheHeap (Value.builtin "BaseException.__getattribute__")) = false := rfl
  have hx2 : (Value.builtin "BaseException.__getattribute__" == Value.builtin "object.__getattribute__") = false := by decide +kernel
  have hx1 : (onTheHeap (Value.ref D) && Value.builtin "BaseException.__getattribute__" == Value.builtin "object.__getattribute__") = false := by rw [hx2]; rfl
  unfold getAttr? getAttrBy? getAttrBy
  refine wpAny_bind (wpAny_mkText (wpAny_bind (wpAny_attempt (wpAny_holding (wpAny_bind (L0.at (wpAny_bind (L1.at ?_))))))))
  show wpAny _ _ (if (onTheHeap (Value.ref D) && Value.builtin "BaseException.__getattribute__" == Value.builtin "object.__getattribute__") = true then _ else _) _ _ _
  rw [hx1, if_neg Bool.false_ne_true]
  unfold getAttrByItsOwn hookBefore
  refine wpAny_bind ?_
  rw [if_pos (show onTheHeap (Value.ref D) = true from rfl)]
  refine L2.at ?_
  refine wpAny_bind (wpAny_attempt (wpAny_holding ?_))
  unfold callGetattribute
  rw [hx0, if_neg Bool.false_ne_true]
  unfold boundAndCalled
  rw [PySem.F.excAttr_ValueError.ga.bind (.ref x)]
  refine wpAny_bind (wpAny_pure ?_)
  show wpAny _ _ (call (.builtin "BaseException.__getattribute__") [.ref x, .str "__class__" t]) _ _ _
  refine wpAny_call (codeAny_call_builtin PySem.F.excAttr_ValueError.ga.plain PySem.F.entry_bexc_ga ?_)
  refine @check_slot (model prog w) _ _ ⟨hp, g, d, t + 1, os⟩ "BaseException.__getattribute__" "BaseException" "__getattribute__" (.ref x) [.str "__class__" t] [] _ (by decide +kernel) (by decide +kernel) sub (PySem.F.args_bexc_ga (.ref x) (.str "__class__" t)) ?_
  unfold Builtin.«object.__getattribute__»
  refine wpAny_bind (wpAny_of_eq (a := ((Value.ref x : Value), [Value.str "__class__" t])) (by first | rfl | (simp only [slotArgs]; rfl)) ?_)
  refine wpAny_bind (wpAny_pure (wpAny_bind (L0.at (wpAny_bind (L3.at ?_)))))
  show wpAny _ _ (holding [Value.builtin "object.__class__"] (call (.builtin "getset_descriptor.__get__") [.builtin "object.__class__", .ref x, .ref D]) >>= ret) _ _ _
  refine wpAny_bind (wpAny_holding (wpAny_call (class_get (s := ⟨hp, g, d, t + 1, os⟩) (ox := ox) (od := od) X I c.hm ?_)))
  refine wpAny_pure ?_
  show wpAny _ _ (handedOut (.ref D)) _ _ _
  rw [handedOut_of (v := .ref D) rfl]
  first
    | exact wpAny_pure (wpAny_pure h)
    | exact wpAny_pure h
    | exact wpAny_pure (wpAny_bind (wpAny_pure (wpAny_pure h)))
theorem kitx_exk (c : ExcC K D) : KitX K (.ref x) (.ref D) (fun h => PySem.W.InstAt h x ox D od) where
  ty := fun _ _ _ I => I.type
  it := fun _ _ X _ => by
    obtain ⟨cdD, hcD, _⟩ := any_some c.hd
    unfold clsIn at hcD
    split at hcD
    · rename_i c' d' cd' sl' ho
      intro A' Q' E' s' k q
      unfold isType loadHead
      exact wpAny_bind (wpAny_loadPart (k _ _ (X _ _ ho)) (wpAny_pure q))
    · cases hcD
  ne := fun h tp dd its n sl X htp => by
    obtain ⟨cdD, hcD, _⟩ := any_some c.hd
    refine Bool.eq_false_iff.mpr fun q => ?_
    have e : D = tp := Value.ref.inj (beq_iff_eq.mp q)
    subst e
    unfold clsIn at hcD
    split at hcD
    · rename_i c' d' cd' sl' ho
      have z := (X _ _ ho).symm.trans htp
      cases z
    · cases hcD
  ca := fun X I k => cls_exc c X I k
end
/-- an exception of the class at D that is held as an object at a -/
def HeldX (D a : Addr) (H : Hp) : Prop := ∃ d, H a = some (exk (.ref D) d a) ∧ (d = none ∨ ∃ dd ws, d = some dd ∧ H dd = some (.xd ws))
theorem HeldX.inst {X : Cx} {pins : List (Addr × Obj)} {s : Shared} {sg : L2.St} {H : Hp} {D a : Addr} (I : Inv X pins sg H s) (h : HeldX D a H) : ∃ ox od, PySem.W.InstAt s.heap a ox D od := by
  obtain ⟨d, h1, h2⟩ := h
  have x : ObjOk X.prog X.w H s.heap a (.ext fun h => ∃ (oe : Obj) (vs : Array Value), h.get? a = some oe ∧ Zc (.ref D) d oe ∧ oe.data = .fields vs) := I.hok a _ h1
  obtain ⟨⟨oe, vs, e1, e2, e3⟩, _, _⟩ := x
  rcases h2 with rfl | ⟨dd, ws, rfl, h3⟩
  · exact ⟨oe, none, e1, e2.1, by unfold PySem.W.notCls; rw [e3], by rw [e2.2]; trivial⟩
  · obtain ⟨mA, hns, _⟩ : ObjOk X.prog X.w H s.heap dd (.xd ws) := I.hok dd _ h3
    obtain ⟨od, ho, hl⟩ := lookIn_ns hns
    exact ⟨oe, some od, e1, e2.1, by unfold PySem.W.notCls; rw [e3], by rw [e2.2]; exact ho⟩
/-- isinstance(e, c), e held, c a class or a tuple of such -/
def rIsX (K : PySem.W.Frag) : List V → Hp → VK → Prop := fun xs H Q => ∃ (a D : Addr) (c : V) (b : Bool), xs = [.ref a, c] ∧ HeldX D a H ∧ ExcC K D ∧
  ((∃ cv, (∀ u, RelV c u → u = cv) ∧ PySem.W.kitOne K (.ref D) cv = some b) ∨ (∃ p cs cvs, c = .ref p ∧ H p = some (.tup cs) ∧ (∀ us, Vals cs us → us = cvs) ∧ PySem.W.kitAny K (.ref D) cvs = some b)) ∧ Q (.bl b) H
theorem call_isX {X : Cx} : CallR X (.builtin "isinstance") (rIsX X.K) := by
  intro pins s sg H xs us Q I r h
  obtain ⟨a, D, c, b, rfl, hx, C, hc, q⟩ := h
  obtain ⟨ox, od, J⟩ := hx.inst I
  cases r with
  | cons rx rr =>
    cases rr with
    | cons rt rr =>
      cases rr
      cases rx
      rcases hc with ⟨cv, hcv, e⟩ | ⟨p, cs, cvs, rfl, hp, hcv, e⟩
      · have ec := hcv _ rt
        subst ec
        exact PySem.W.kia_one (kitx_exk C) I.kIn J e (fun z => nomatch z) fun tk => ⟨.bl b, H, I.kept (t' := tk) fun _ _ z => z, rfl, q⟩
      · cases rt
        obtain ⟨its2, r2, ⟨⟨cls, dd, data, sl⟩, e2, hcls, n2, hdata⟩, z2⟩ := I.tuple (a := p) (xs := cs) (.inl (.inl hp))
        simp only at hcls hdata
        subst hcls; subst hdata
        have ec := hcv _ r2
        subst ec
        exact PySem.W.kia_tup (kitx_exk C) I.kIn J e2 e (fun z => nomatch z) fun tk => ⟨.bl b, H, I.kept (t' := tk) fun _ _ z => z, rfl, q⟩
end D
namespace D
open PySem L2
/-! ### what was caught: isinstance, fields -/
def isX (t : List (Str × Bool)) (f : DE) : DE := fun env st => (f env st).bind fun u st1 => match u with
  | .ref n => match st1[n]? with
    | some (.ins c _) => match tabB t c with
      | some b => .ok (.bl b) st1
      | none => .bad
    | _ => .bad
  | _ => .bad
def attrX (cs : List Str) (n : Str) (f : DE) : DE := fun env st => (f env st).bind fun u st1 => match u with
  | .ref k => match st1[k]? with
    | some (.ins c fs) => if c ∈ cs then match fs.lookup n with
      | some v => .ok v st1
      | none => .bad else .bad
    | _ => .bad
  | _ => .bad
def tCs : List V → TA
  | [] => tNil
  | v :: vs => tCons (tC v) (tCs vs)
theorem tCs_of {Q : List V → Hp → Prop} {sg : L2.St} {H : Hp} : ∀ (vs : List V), Q vs H → tCs vs sg H Q
  | [], h => h
  | v :: vs, h => tCs_of (Q := fun xs H2 => Q (v :: xs) H2) vs h
section
variable {X : Cx} {xs : XS} {wx : WX} {pos : Pos}
theorem held {K : PySem.W.Frag} {G : Addr → Prop} {io : List Addr} {st : Store} {H : Hp} {n : Nat} {c : Str} {fs : List (Str × U)} {v : V} (ok : Ok K G io st H) (h : st[n]? = some (.ins c fs)) (r : Rep K (Wf G io) io H (.ref n) v) : ∃ a C d, v = .ref a ∧ clsAt K c = some C ∧ H a = some (exk (.ref C) d a) ∧ XD fs d H := by
  unfold Rep at r
  obtain ⟨a, e1, rfl⟩ := r
  obtain ⟨C, d, q1, q2, q3⟩ := ok.obs n _ a h e1
  exact ⟨a, C, d, rfl, q1, q2, q3⟩
theorem heldX_of {H : Hp} {C a : Addr} {d : Option Addr} {fs : List (Str × U)} (h : H a = some (exk (.ref C) d a)) (x : XD fs d H) : HeldX C a H := ⟨d, h, x.elim (fun z => .inl z.2) fun ⟨dd, ws, z1, z2, _⟩ => .inr ⟨dd, ws, z1, z2⟩⟩
theorem d_isX {t : List (Str × Bool)} {e c : Expr} {f : DE} {v : V} {cv : Value} {p : Pos} (he : PE X e (tD X.K xs wx f)) (hc : PE X c (tC v)) (hcv : ∀ u, RelV v u → u = cv) (ht : TabOk t fun k b => ∃ C, clsAt X.K k = some C ∧ ExcC X.K C ∧ PySem.W.kitOne X.K (.ref C) cv = some b)
    (hg : Gl X "isinstance") (hm : X.mg "isinstance" = none) (h1 : starEach [e, c] X.env = (false, eval e X.env) :: starEach [c] X.env := by rfl) (h2 : starEach [c] X.env = (false, eval c X.env) :: starEach [] X.env := by rfl) (hpl : (backTo pos (starEach [c] X.env)).any (·.1) = false := by rfl) :
    PE X (.Call (.Name "isinstance" p) [e, c] [] pos) (tD X.K xs wx (isX t f)) :=
  pe_imp (pe_callB call_isX hg hm PyProof.Rows.Boot.isinstance (pa_cons he (pa_cons hc pa_nil h2) h1) (by decide) (by decide) h1 hpl) fun sg H Q h => by
    obtain ⟨G, io, st, env, ok, er, w⟩ := h
    refine ⟨G, io, st, env, ok, er, w.bind.impR fun st1 io1 H1 u ok1 e1 w1 x rx => ?_⟩
    cases u with
    | ref n =>
      simp only at w1
      split at w1
      · rename_i k fs hk
        split at w1
        · rename_i b hb
          obtain ⟨a, C, d, rfl, q1, q2, q3⟩ := held ok1 hk rx
          obtain ⟨C', q4, q5, q6⟩ := ht _ _ hb
          rw [q1] at q4; cases q4
          exact ⟨a, C, v, b, rfl, heldX_of q2 q3, q5, .inl ⟨cv, hcv, q6⟩, w1.here ok1 _ (rBl b)⟩
        · exact w1.elim
      · exact w1.elim
    | _ => exact w1.elim
theorem d_isXT {t : List (Str × Bool)} {e : Expr} {es : List Expr} {x1} {f : DE} {vs : List V} {cvs : List Value} {p p' : Pos} (he : PE X e (tD X.K xs wx f)) (hc : PA X es (tCs vs)) (hz : vs.length ≤ sizeLine) (hcv : ∀ us, Vals vs us → us = cvs) (ht : TabOk t fun k b => ∃ C, clsAt X.K k = some C ∧ ExcC X.K C ∧ PySem.W.kitAny X.K (.ref C) cvs = some b)
    (hg : Gl X "isinstance") (hm : X.mg "isinstance" = none) (h1 : starEach [e, .Tuple es x1 p'] X.env = (false, eval e X.env) :: starEach [.Tuple es x1 p'] X.env := by rfl) (h2 : starEach [.Tuple es x1 p'] X.env = (false, eval (.Tuple es x1 p') X.env) :: starEach [] X.env := by rfl) (hpl : (backTo pos (starEach [.Tuple es x1 p'] X.env)).any (·.1) = false := by rfl) :
    PE X (.Call (.Name "isinstance" p) [e, .Tuple es x1 p'] [] pos) (tD X.K xs wx (isX t f)) :=
  pe_imp (pe_callB call_isX hg hm PyProof.Rows.Boot.isinstance (pa_cons he (pa_cons (pe_tup hc) pa_nil h2) h1) (by decide) (by decide) h1 hpl) fun sg H Q h => by
    obtain ⟨G, io, st, env, ok, er, w⟩ := h
    refine ⟨G, io, st, env, ok, er, w.bind.impR fun st1 io1 H1 u ok1 e1 w1 x rx => ?_⟩
    cases u with
    | ref n =>
      simp only at w1
      split at w1
      · rename_i k fs hk
        split at w1
        · rename_i b hb
          obtain ⟨a, C, d, rfl, q1, q2, q3⟩ := held ok1 hk rx
          obtain ⟨C', q4, q5, q6⟩ := ht _ _ hb
          rw [q1] at q4; cases q4
          refine tCs_of vs ⟨hz, fun q hq => ?_⟩
          have sm : Same H1 (upd H1 q (.tup vs)) := same_upd hq
          exact ⟨a, C, .ref q, b, rfl, heldX_of (sm _ _ q2) (q3.keep fun dd ws z => sm _ _ z), q5, .inr ⟨q, vs, cvs, rfl, upd_same, hcv, q6⟩, w1.hereS ok1 sm _ (rBl b)⟩
        · exact w1.elim
      · exact w1.elim
    | _ => exact w1.elim
theorem flat_of : ∀ {fs : List (Str × U)} {ws : List (Str × V)} {n : Str} {u : U}, fs.map (fun p => (p.1, flatE p.2)) = ws.map (fun p => (p.1, some p.2)) → fs.lookup n = some u → ∃ v, ws.lookup n = some v ∧ flatE u = some v
  | [], _, _, _, _, h => nomatch h
  | p :: fs, [], _, _, e, _ => nomatch e
  | (a, x) :: fs, (b, y) :: ws, n, u, e, h => by
    simp only [List.map_cons, List.cons.injEq, Prod.mk.injEq] at e
    obtain ⟨⟨rfl, e1⟩, e2⟩ := e
    rw [List.lookup_cons] at h ⊢
    split at h
    · cases h
      exact ⟨y, rfl, e1⟩
    · exact flat_of e2 h
theorem flat_rp {K : PySem.W.Frag} {W : Addr → Prop} {io : List Addr} {H : Hp} {u : U} {v : V} (h : flatE u = some v) : Rep K W io H u v := by
  cases u <;> simp only [flatE] at h <;> first | (cases h; unfold Rep; rfl) | cases h
theorem d_attrX {cs : List Str} {n : Str} {e : Expr} {f : DE} (he : PE X e (tD X.K xs wx f)) (ht : ∀ c ∈ cs, ∃ C, clsAt X.K c = some C ∧ XfC X.K C ∧ PySem.W.findIn X.K (.ref C) n = some none) (hb : attributeBase e n X.env (eval e X.env) = eval e X.env := by rfl) :
    PE X (.Attribute e n pos) (tD X.K xs wx (attrX cs n f)) := by
  refine ⟨fun pins s sg H Q I h => ?_⟩
  obtain ⟨G, io, st, env, ok, er, w⟩ := h
  refine attr_of hb (thn (he.run pins s sg H (fun x H1 => ∃ (a C dd : Addr) (ws : List (Str × V)) (v : V), x = .ref a ∧ H1 a = some (exk (.ref C) (some dd) a) ∧ H1 dd = some (.xd ws) ∧ ws.lookup n = some v ∧ XfC X.K C ∧ PySem.W.findIn X.K (.ref C) n = some none ∧ Q v H1) I ?_) fun u s1 hh => ?_)
  · refine ⟨G, io, st, env, ok, er, w.bind.impR fun st1 io1 H1 u ok1 e1 w1 x rx => ?_⟩
    cases u with
    | ref k =>
      simp only at w1
      split at w1
      · rename_i c fs hk
        split at w1
        · rename_i hc
          split at w1
          · rename_i v hv
            obtain ⟨a, C, d, rfl, q1, q2, q3⟩ := held ok1 hk rx
            obtain ⟨C', q4, q5, q6⟩ := ht c hc
            rw [q1] at q4; cases q4
            rcases q3 with ⟨rfl, _⟩ | ⟨dd, ws, rfl, q7, q8⟩
            · cases hv
            · obtain ⟨y, l1, l2⟩ := flat_of q8 hv
              exact ⟨a, C, dd, ws, y, rfl, q2, q7, l1, q5, q6, w1.here ok1 _ (flat_rp l2)⟩
          · exact w1.elim
        · exact w1.elim
      · exact w1.elim
    | _ => exact w1.elim
  · obtain ⟨x, H1, I1, rx, a, C, dd, ws, v, rfl, h1, h2, l, T, hno, q⟩ := hh
    obtain rfl : u = Value.ref a := rx
    have hx : ObjOk X.prog X.w H1 s1.heap a (.ext fun h => ∃ (oe : Obj) (vs : Array Value), h.get? a = some oe ∧ Zc (.ref C) (some dd) oe ∧ oe.data = .fields vs) := I1.hok a _ h1
    obtain ⟨⟨oe, vs, e1, e2, e3⟩, _, _⟩ := hx
    obtain ⟨mA, hns, hr⟩ : ObjOk X.prog X.w H1 s1.heap dd (.xd ws) := I1.hok dd _ h2
    obtain ⟨od, ho, hl⟩ := lookIn_ns hns
    obtain ⟨u, hu, ru⟩ := RelO.some_of (v := v) (o := mA n) (by rw [← l]; exact hr n)
    have J : PySem.W.InstAt s1.heap a oe C (some od) := ⟨e1, e2.1, by unfold PySem.W.notCls; rw [e3], by rw [e2.2]; exact ho⟩
    exact HandSPX.exc_get I1.kIn J T.ga T.gg T.exC (PySem.W.findObj_own T.hdC hno rfl (by rw [hl, hu])) (handed_of ru) ⟨v, H1, I1.tok _, ru, q⟩
end
/-! ### raise C(..) -/
/-- B.__init__(self, ..), B an own class over ValueError without own __init__ -/
theorem pe_baseI {X : Cx} {x : Str} {B : Addr} {e : Expr} {es : List Expr} {ta : TA} {p1 p2 pos : Pos} {pl : Sem Bool} (hg : Gl X x) (hm : X.mg x = some (.ref B)) (g1 : PySem.W.specialIn X.K (.ref B) "__getattribute__" = some (some (.builtin "type.__getattribute__"))) (g2 : PySem.W.typeIn X.K (.ref B) = some (.type "type")) (g3 : PySem.W.readsIn X.K B (.type "type") = true)
    (vV : PySem.W.findCls X.K (.ref B) (.type "type") "__init__" = some (.val (.builtin "ValueError.__init__"))) (ha : PA X (e :: es) ta)
    (hc : eval (.Call (.Attribute (.Name x p1) "__init__" p2) (e :: es) [] pos) X.env = (do
      let ov ← eval (.Name x p1) X.env
      standAt p2.atName
      let (f, first) ← holding [ov] (getMethod ov "__init__" pl)
      callWith pos f first (backTo pos (starEach (e :: es) X.env)) (backToKw pos (keywordEach [] X.env))) := by rfl) (hdb : (x == ("__debug__" : Str)) = false := by decide)
    (he : starEach (e :: es) X.env = (false, eval e X.env) :: starEach es X.env := by rfl) (hpl : (backTo pos (starEach es X.env)).any (·.1) = false := by rfl) :
    PE X (.Call (.Attribute (.Name x p1) "__init__" p2) (e :: es) [] pos) (tVeI X.K ta) := by
  refine ⟨fun pins s sg H Q I h => ?_⟩
  refine PySem.W.methodCall_KW (ld_glob I hg hm ?_ hdb) hc
  obtain ⟨m, fr⟩ := I.fr
  refine PySem.W.method_of_cls fr I.ok.mod.kin g1 (PySem.W.cls_val fr I.ok.mod.kin g2 g3 vV (by decide +kernel) ?_)
  show wpAny _ _ (callWith pos (Value.builtin "ValueError.__init__") [] (backTo pos (starEach (e :: es) X.env)) []) _ _ _
  refine PyProof.Rows.callWith_method1 (thn (ha.run pos pins _ sg H _ (I.tok _) h) fun us s1 ⟨vs, H1, I1, r1, a, C, ws, ev, hl, T, ea, q⟩ => ?_) he hpl
  subst ev
  cases r1 with
  | @cons _ u0 _ ur ra rw' =>
    obtain rfl : u0 = Value.ref a := ra
    have hlen : ur.length ≤ sizeLine := by
      rw [← Paired.length rw', sizeLine_eq]
      omega
    exact oinit_ok T I1 ea hlen fun s' J => ⟨.non, H1, J, rfl, q⟩
/-- what C's own __init__ promises: the fields ns are set, one behind the other -/
def spI (C : Addr) (ns : List Str) : Sp := fun vs H Q E => vs.length = ns.length + 1 ∧ ∃ a ws, vs = .ref a :: ws ∧ H a = some (exo a C none) ∧
  ∀ dx H2, H dx = none → H2 a = some (exo a C (some dx)) → H2 dx = some (exd dx (ns.zip ws).reverse) → (∀ b, b ≠ a → b ≠ dx → H2 b = H b) → Q .non H2
section
variable {X : Cx} {o : List V}
def nxE (Q : VK) : Ends := { nx := fun _ H' => Q .non H', rt := Q }
theorem init2_read {K : PySem.W.Frag} {C : Addr} {f1 f2 : Str} {N : List Str} {vs : List V} {H : Hp} {Q : VK} {E : XK} {m : Str} (T : OexC K C) (n1 : PySem.W.findIn K (.ref C) f1 = some none) (n2 : PySem.W.findIn K (.ref C) f2 = some none) (hN : N.length = 3) (h : spI C [f1, f2] vs H Q E) :
    tSeq (tDrop (tVeI K (tCons (tVar 0) (tCons (tC (.str m)) tNil)))) (tSeq (tOst K f1 (tVar 0) (tVar 1)) (tSeq (tOst K f2 (tVar 0) (tVar 2)) tNext)) { nx := fun _ H' => Q .non H', rt := Q } (start N vs) H := by
  obtain ⟨hl, a, ws, rfl, ha, q⟩ := h
  match ws, hl with
  | [p, r], _ =>
    have st : start N [V.ref a, p, r] = [some (.ref a), some p, some r] := by unfold L2.start; simp [hN]
    rw [st]
    refine ⟨.ref a, rfl, a, C, [.str m], rfl, by simp, T, ha, ?_⟩
    refine ⟨p, rfl, .ref a, rfl, a, C, rfl, T, n1, .inl ⟨ha, fun dx hd hda => ?_⟩⟩
    refine ⟨r, rfl, .ref a, rfl, a, C, rfl, T, n2, .inr ⟨dx, [(f1, p)], upd_same, by rw [upd_ne hda, upd_same], by simp, ?_⟩⟩
    refine q dx _ hd (by rw [upd_ne (Ne.symm hda), upd_same]) upd_same fun b h1 h2 => ?_
    rw [upd_ne h2, upd_ne h1, upd_ne h2]
theorem init1_read {K : PySem.W.Frag} {C : Addr} {f1 : Str} {N : List Str} {vs : List V} {H : Hp} {Q : VK} {E : XK} {m : Str} (T : OexC K C) (n1 : PySem.W.findIn K (.ref C) f1 = some none) (hN : N.length = 2) (h : spI C [f1] vs H Q E) :
    tSeq (tDrop (tVeI K (tCons (tVar 0) (tCons (tC (.str m)) tNil)))) (tSeq (tOst K f1 (tVar 0) (tVar 1)) tNext) { nx := fun _ H' => Q .non H', rt := Q } (start N vs) H := by
  obtain ⟨hl, a, ws, rfl, ha, q⟩ := h
  match ws, hl with
  | [p], _ =>
    have st : start N [V.ref a, p] = [some (.ref a), some p] := by unfold L2.start; simp [hN]
    rw [st]
    refine ⟨.ref a, rfl, a, C, [.str m], rfl, by simp, T, ha, ?_⟩
    refine ⟨p, rfl, .ref a, rfl, a, C, rfl, T, n1, .inl ⟨ha, fun dx hd hda => ?_⟩⟩
    refine q dx _ hd upd_same (by rw [upd_ne hda, upd_same]; rfl) fun b h1 h2 => ?_
    rw [upd_ne h1, upd_ne h2]
end
/-- an own exception class with fields ns -/
structure ExFn (P : Program) (w : World) (K : PySem.W.Frag) (mg : Str → Option Value) (base : Heap) (x : Str) (k : Nat) (ns : List Str) : Prop where
  ex : ∃ C fI fd ps, clsAt K x = some C ∧ mg x = some (.ref C) ∧ OexC K C ∧ PySem.W.findIn K (.ref C) "__init__" = some (some (.ref fI)) ∧ PySem.W.typeIn K (.ref fI) = some (.type "function") ∧ Binds K fd ps [] ∧ FnOk P w K mg base (L2.CX P w) k fI fd ps (spI C ns)
def sRaise (c : Str) (ns : List Str) (fa : DA) : DS := fun env st => (fa env st).out env fun us st1 => if us.length = ns.length ∧ us.all flatU = true then .ex c (ns.zip us).reverse env st1 else .bad
theorem flat_zip {K : PySem.W.Frag} {W : Addr → Prop} {io : List Addr} {H : Hp} : ∀ (ns : List Str) {us : List U} {vs : List V}, Reps K W io H us vs → us.all flatU = true → (ns.zip us).map (fun p => (p.1, flatE p.2)) = (ns.zip vs).map (fun p => (p.1, some p.2))
  | [], us, vs, _, _ => by simp
  | n :: ns, [], vs, r, _ => by rw [r.isNil]; rfl
  | n :: ns, u :: us, vs, r, h => by
    obtain ⟨v, vr, rfl, r1, r2⟩ := r.uncons
    rw [List.all_cons, Bool.and_eq_true] at h
    rw [List.zip_cons_cons, List.zip_cons_cons, List.map_cons, List.map_cons, flat_zip ns r2 h.2]
    congr 1
    have e : flatE u = some v := by
      cases u <;> first | (unfold Rep at r1; subst r1; rfl) | (cases h.1)
    rw [e]
theorem s_raise {X : Cx} {wx : WX} {x : Str} {k : Nat} {ns : List Str} {e : Expr} {es : List Expr} {fa : DA} {p pos pos' : Pos} (F : ExFn X.prog X.w X.K X.mg X.base x k ns) (hc : X.calm = true) (tk : Takes X wx) (hr : Room (k + 1) X.A) (hg : Gl X x) (hns : ns.length ≤ 1000) (ha : PA X (e :: es) (tDA X.K (XSd X.K) wx fa))
    (hdb : (x == ("__debug__" : Str)) = false := by decide) (he : starEach (e :: es) X.env = (false, eval e X.env) :: starEach es X.env := by rfl) (hpl : (backTo pos (starEach es X.env)).any (·.1) = false := by rfl) :
    PS X (.Raise (some (.Call (.Name x p) (e :: es) [] pos)) none pos') (tDS X.K (XSd X.K) wx (sRaise x ns fa)) := by
  obtain ⟨C, fI, fd, ps, c1, c2, c3, c4, c5, c6, c7⟩ := F.ex
  refine ps_imp (ps_raise hc tk (pmk_oex (dvs := []) c3 c4 c5 c7 hr c6 .nil (fun _ _ _ _ _ _ _ z => (cx_no z).elim) hg c2 ha hdb he hpl)) fun D sg H h => ?_
  obtain ⟨F, io, st, env, fr, w⟩ := h
  refine ⟨Gs F env sg, io, st, env, fr.ok, fr.er, (WantsS.expr fr w).impR fun st1 io1 H1 us ok1 e1 q vs rvs => ?_⟩
  have q2 := q.2
  split at q2
  · rename_i hl
    have hlen : vs.length = ns.length := by rw [← rvs.length]; exact hl.1
    refine ⟨by omega, fun a na => ⟨by simp; omega, a, vs, by simp, upd_same, fun dx H2 h1 h2 h3 h4 => ⟨rfl, dx, _, h2, h3, ?_, ?_⟩⟩⟩
    · by_cases e : dx = a
      · subst e; exact na
      · rw [upd_ne e] at h1; exact h1
    · have hda : dx ≠ a := fun e => by subst e; rw [upd_same] at h1; cases h1
      have hn : H1 dx = none := by rw [upd_ne hda] at h1; exact h1
      have eH : upd (del H2 a) dx (.xd (ns.zip vs).reverse) = upd H1 dx (.xd (ns.zip vs).reverse) := by
        funext b
        by_cases hb : b = dx
        · subst hb; rw [upd_same, upd_same]
        · rw [upd_ne hb, upd_ne hb]
          by_cases hba : b = a
          · subst hba; rw [del_same, na]
          · rw [del_ne hba, h4 b hba hb, upd_ne hba]
      rw [eH]
      have sm : Same H1 (upd H1 dx (.xd (ns.zip vs).reverse)) := same_upd hn
      refine q2 io1 sg _ (q.1.ext (q.1.ok.same sm) (Ext.same sm)) ((Ext.same sm).o _) _ _ ⟨C, c1, rfl, .inr ⟨dx, _, rfl, upd_same, ?_⟩⟩
      rw [List.map_reverse, List.map_reverse, flat_zip ns rvs hl.2]
  · exact q2.elim
end D
namespace D
open PySem L2
/-- what is known of a class that is named -/
structure ClsF (K : PySem.W.Frag) (mg : Str → Option Value) (x : Str) (C : Addr) : Prop where
  mg : mg x = some (.ref C)
  at_ : clsAt K x = some C
  hd : PySem.W.hasDictIn K C = true
  ty : PySem.W.typeIn K (.ref C) = some (.type "type")
  ex : PySem.W.subIn K (.ref C) (.type "BaseException") = some true
theorem clsF_mk {K : PySem.W.Frag} {mg : Str → Option Value} {h : Heap} {x : Str} {C : Addr} (X : K.In h) (G : h.Ns mainGlobals mg) (a : PySem.W.nsIn K mainGlobals x = some (some (.ref C))) (hd : PySem.W.hasDictIn K C = true) (ty : PySem.W.typeIn K (.ref C) = some (.type "type")) (ex : PySem.W.subIn K (.ref C) (.type "BaseException") = some true) : ClsF K mg x C :=
  ⟨PySem.W.mg_of X G a, clsAt_of a, hd, ty, ex⟩
section
variable {K : PySem.W.Frag} {C B : Addr} {b : Bool}
theorem exm_cls (h1 : PySem.W.subIn K (.ref B) (.type "BaseException") = some true) (hd : PySem.W.hasDictIn K B = true) (ht : PySem.W.typeIn K (.ref B) = some (.type "type")) (h4 : PySem.W.subIn K (.ref C) (.ref B) = some b) : PySem.W.exmOne K (.ref C) (.ref B) = some b := PySem.W.exm_ref h1 hd ht h4
theorem kit_self : PySem.W.kitOne K (.ref C) (.ref C) = some true := by
  unfold PySem.W.kitOne
  rw [if_pos (by simp)]
theorem kit_ne (hn : (C == B) = false) (hd : PySem.W.hasDictIn K B = true) (ht : PySem.W.typeIn K (.ref B) = some (.type "type")) (h4 : PySem.W.subIn K (.ref C) (.ref B) = some b) : PySem.W.kitOne K (.ref C) (.ref B) = some b := by
  unfold PySem.W.kitOne
  rw [if_neg (fun z => by
    have e : C = B := Value.ref.inj (beq_iff_eq.mp z)
    subst e
    simp at hn)]
  obtain ⟨cd, hc, _⟩ := PySem.W.any_some hd
  show (if ((PySem.W.clsIn K B).isSome && PySem.W.typeIn K (.ref B) == some (.type "type")) = true then PySem.W.subIn K (.ref C) (.ref B) else none) = some b
  rw [if_pos (by rw [hc, ht]; rfl)]
  exact h4
theorem kit_type {T : String} (hk : PySem.W.kitMeta T = true) (h4 : PySem.W.subIn K (.ref C) (.type T) = some b) : PySem.W.kitOne K (.ref C) (.type T) = some b := by
  unfold PySem.W.kitOne
  rw [if_neg (fun z => by cases beq_iff_eq.mp z)]
  show (if PySem.W.kitMeta T = true then PySem.W.subIn K (.ref C) (.type T) else none) = some b
  rw [if_pos hk]
  exact h4
theorem kany_nil {t : Value} : PySem.W.kitAny K t [] = some false := rfl
theorem kany_f {t c : Value} {r : List Value} (h : PySem.W.kitOne K t c = some false) (q : PySem.W.kitAny K t r = some b) : PySem.W.kitAny K t (c :: r) = some b := by
  unfold PySem.W.kitAny
  rw [h]
  exact q
theorem kany_t {t c : Value} {r : List Value} (h : PySem.W.kitOne K t c = some true) : PySem.W.kitAny K t (c :: r) = some true := by
  unfold PySem.W.kitAny
  rw [h]
theorem vals_refs : ∀ (l : List Addr) (us : List Value), Vals (l.map V.ref) us → us = l.map Value.ref
  | [], us, h => by cases h; rfl
  | a :: l, us, h => by
    cases h with
    | cons r t => rw [vals_refs l _ t, (show _ = Value.ref a from r)]; rfl
theorem all1 {α : Type} {P : α → Prop} {a : α} (h : P a) : ∀ x ∈ [a], P x := fun x hx => by rw [List.mem_singleton] at hx; subst hx; exact h
theorem xfC_of (e : ExcC K C) : XfC K C := ⟨e.hg, e.hk, e.hs, e.hd⟩
theorem oexC_mk {nm q : Str} {N : Addr} {bs bm : List Value} {sn : List Str} {sub : List Value} {ab : Bool} {col : Option Bool} {dd : Option Addr} {k0 k1 k2 k3 k5 : Option Value} (l : K.lookup C = some (PySem.excClassObj nm q C N bs bm true sn sub ab col dd k0 k1 k2 k3 k5 "ValueError.__new__")) (r : PySem.HandSPX.refsVE bm = true)
    (sa : PySem.W.findIn K (.ref C) "__setattr__" = some (some (.builtin "object.__setattr__"))) (ex : PySem.W.subIn K (.ref C) (.type "BaseException") = some true) (ty : PySem.W.typeIn K (.ref C) = some (.type "type")) (kC : PySem.W.keepIn K (.ref C) = true) : OexC K C :=
  ⟨⟨nm, q, N, bs, bm, sn, sub, ab, col, dd, k0, k1, k2, k3, k5, l, r⟩, sa, ex, ty, kC⟩
end
theorem kitMeta_VE : PySem.W.kitMeta "ValueError" = true := by decide +kernel
section
variable {X : Cx} {pos : Pos}
theorem pe_tyC {x : Str} {n : String} (hg : Gl X x) (hm : X.mg x = none) (hv : bootBuiltins x = some (.type n)) (hn : x ≠ "__name__" := by decide) (hd : (x == ("__debug__" : Str)) = false := by decide) : PE X (.Name x pos) (tC (.ty n)) :=
  ⟨fun pins s sg H Q I h => ld_blt I hg hm hv ⟨.ty n, H, I, rfl, h⟩ hn hd⟩
end
abbrev spX (K : PySem.W.Frag) (n : Nat) (g : List U → Store → Rs U) : Sp := spD K (XSd K) n g
/-- a base's name in an own __init__ -/
structure BaseF (K : PySem.W.Frag) (B : Addr) : Prop where
  g1 : PySem.W.specialIn K (.ref B) "__getattribute__" = some (some (.builtin "type.__getattribute__"))
  g3 : PySem.W.readsIn K B (.type "type") = true
  vV : PySem.W.findCls K (.ref B) (.type "type") "__init__" = some (.val (.builtin "ValueError.__init__"))
theorem exfn_mk {P : Program} {w : World} {K : PySem.W.Frag} {mg : Str → Option Value} {base : Heap} {x qual : Str} {s : Stmt} {C fI : Addr} {ns : List Str} {od an : Option Addr} {sl : Array (Option Value)} {oc kV dc pm cd ct : Value} {ps : List Str} (c : ClsF K mg x C) (T : OexC K C)
    (ai : PySem.W.findIn K (.ref C) "__init__" = some (some (.ref fI))) (ti : PySem.W.typeIn K (.ref fI) = some (.type "function")) (li : K.lookup fI = some ⟨oc, od, .func (PySem.W.fnOf "__init__" qual (defArgs s) (defBody s) (defScope s) .none kV dc pm an cd ct), sl⟩) (ci : PySem.W.codeIn K cd qual = true) (ki : PySem.W.keepIn K (.ref fI) = true)
    (hb : ∀ (us : List Value), us.length = ps.length → bindArgs (PySem.W.fnOf "__init__" qual (defArgs s) (defBody s) (defScope s) .none kV dc pm an cd ct) ⟨us, []⟩ = Pure.pure (ps.zip us))
    (B : ∀ f fd, Fun K "__init__" qual s f fd → FnOk P w K mg base (L2.CX P w) 1 f fd ps (spI C ns)) : ExFn P w K mg base x 1 ns := by
  have F := fun_mk (st := s) li ci ki
  exact ⟨C, fI, _, ps, c.at_, c.mg, T, ai, ti, .all hb, B fI _ F⟩
@[simp] theorem sTryK_ap (t : List (Str × Bool)) (i j : Nat) (b : DS) (env : Env) (st : Store) : sTryK t i j b env st = match b env st with
  | .ex c fs env' st' => match tabB t c with
    | some true => .nx (((env'.set i (.val (.ref st'.length))).set j (.val (.ref st'.length))).set i .un) (st' ++ [.ins c fs])
    | some false => .ex c fs env' st'
    | none => .bad
  | o => o := (rfl)
@[simp] theorem isX_ap (t : List (Str × Bool)) (f : DE) (env : Env) (st : Store) : isX t f env st = (f env st).bind fun u st1 => match u with
  | .ref n => match st1[n]? with
    | some (.ins c _) => match tabB t c with
      | some b => .ok (.bl b) st1
      | none => .bad
    | _ => .bad
  | _ => .bad := (rfl)
@[simp] theorem attrX_ap (cs : List Str) (n : Str) (f : DE) (env : Env) (st : Store) : attrX cs n f env st = (f env st).bind fun u st1 => match u with
  | .ref k => match st1[k]? with
    | some (.ins c fs) => if c ∈ cs then match fs.lookup n with
      | some v => .ok v st1
      | none => .bad else .bad
    | _ => .bad
  | _ => .bad := (rfl)
@[simp] theorem sRaise_ap (c : Str) (ns : List Str) (fa : DA) (env : Env) (st : Store) : sRaise c ns fa env st = (fa env st).out env fun us st1 => if us.length = ns.length ∧ us.all flatU = true then .ex c (ns.zip us).reverse env st1 else .bad := (rfl)
end D
namespace D
open PySem L2
/-! ### raise of a class without own __init__ -/
def sRaise0 (c : Str) : DS := fun env st => .ex c [] env st
theorem s_raise0 {X : Cx} {wx : WX} {x : Str} {C : Addr} {m : Str} {j} {p p2 pos pos' : Pos} {bmB : List Value} {B newId initId : String} (F : ExcBaseFacts B newId initId bmB) (q : PySem.W.excIn X.K C bmB newId = true) (c : ClsF X.K X.mg x C) (kC : PySem.W.keepIn X.K (.ref C) = true) (hc : X.calm = true) (tk : Takes X wx) (hg : Gl X x)
    (hdb : (x == ("__debug__" : Str)) = false := by decide) :
    PS X (.Raise (some (.Call (.Name x p) [.Constant (.str m) j p2] [] pos)) none pos') (tDS X.K (XSd X.K) wx (sRaise0 x)) :=
  ps_imp (ps_raise hc tk (pmk_own F q c.mg kC (raises_own c.ex c.ty) hg hdb)) fun D sg H h => by
    obtain ⟨F, io, st, env, fr, w⟩ := h
    exact w io sg H fr (ExtO.refl _ _ _) _ _ ⟨C, c.at_, rfl, .inl ⟨rfl, rfl⟩⟩
@[simp] theorem sRaise0_ap (c : Str) (env : Env) (st : Store) : sRaise0 c env st = .ex c [] env st := (rfl)
end D
namespace D
open PySem L2
/-! ### a slice of a list, as a list of the frame's own -/
def cut3 (u : U) (lo hi : Option Int) : Option (List U) := match u with
  | .lst us => some (cutL us lo hi)
  | .scr ns => some ((cutL ns lo hi).map U.int)
  | _ => none
def slL (f : DE) (a b : DO) : DL := fun env st => (f env st).bind fun u st1 => (a env st1).bind fun l st2 => (b env st2).bind fun h st3 => Rs.of (cut3 u l h) st3
section
variable {X : Cx} {xs : XS} {wx : WX} {pos : Pos}
theorem l_slice {e : Expr} {lo hi : Option Expr} {p2 : Pos} {f : DE} {a b : DO} (he : PE X e (tD X.K xs wx f)) (hl : PO X lo (tDO X.K xs wx a)) (hu : PO X hi (tDO X.K xs wx b)) : PE X (.Subscript e (.Slice lo hi none p2) pos) (tDL X.K xs wx (slL f a b)) :=
  pe_imp (pe_slice sl_list he hl hu) fun sg H Q h => by
    obtain ⟨G, io, st, env, ok, er, w⟩ := h
    refine ⟨G, io, st, env, ok, er, w.bind.impR fun st1 io1 H1 u ok1 e1 w1 v rv => ?_⟩
    refine ⟨G, io1, st1, env, ok1, er.ext ok.dj e1, w1.bind.impR fun st2 io2 H2 l ok2 e2 w2 => ?_⟩
    refine ⟨G, io2, st2, env, ok2, (er.ext ok.dj e1).ext ok1.dj e2, w2.bind.impR fun st3 io3 H3 h ok3 e3 w3 => ?_⟩
    obtain ⟨r, hr, w4⟩ := w3.pure
    have r1 := (rv.ext e2).ext e3
    unfold cut3 at hr
    split at hr
    · cases hr
      obtain ⟨a, vs, rfl, l, rs⟩ := r1.lst'
      refine ⟨a, vs, rfl, l.sq, fun p hp => w4.here ok3 _ p ?_ hp⟩
      unfold cutL cutV
      rw [rs.length]
      exact (rs.drop _).take _
    · cases hr
      unfold Rep at r1
      obtain ⟨a, rfl, l⟩ := r1
      refine ⟨a, _, rfl, l.sq, fun p hp => w4.here ok3 _ p ?_ hp⟩
      unfold cutL cutV
      rw [List.length_map, List.map_take, List.map_drop]
      exact ((Reps.ints _).drop _).take _
    · cases hr
end
@[simp] theorem slL_ap (f : DE) (a b : DO) (env : Env) (st : Store) : slL f a b env st = (f env st).bind fun u st1 => (a env st1).bind fun l st2 => (b env st2).bind fun h st3 => Rs.of (cut3 u l h) st3 := (rfl)
@[simp] theorem cut3_lst (us : List U) (lo hi : Option Int) : cut3 (.lst us) lo hi = some (cutL us lo hi) := (rfl)
@[simp] theorem cut3_scr (us : List Int) (lo hi : Option Int) : cut3 (.scr us) lo hi = some ((cutL us lo hi).map U.int) := (rfl)
end D
namespace D
open PySem L2
/-! ### lists of the store -/
section
variable {K : PySem.W.Frag} {F G : Addr → Prop} {io : List Addr} {st : Store} {env : Env} {sg : L2.St} {H : Hp}
theorem Ok.alloc (ok : Ok K G io st H) {a : Addr} {o : HO} {ob : Ob} (na : H a = none) (hx : NX o) (new : ObRep K (Wf G (io ++ [a])) (io ++ [a]) (upd H a o) a ob) :
    Ok K G (io ++ [a]) (st ++ [ob]) (upd H a o) ∧ Ext io H (io ++ [a]) (upd H a o) := by
  have nW : ¬ Wf G io a := ok.fresh na
  have s : Same H (upd H a o) := same_upd na
  have ex : Ext io H (io ++ [a]) (upd H a o) := ⟨⟨[a], rfl, fun b hb => by rw [List.mem_singleton] at hb; rw [hb]; exact na⟩, fun b u _ h => s b u h, fun b u h => ⟨u, s b u h⟩⟩
  refine ⟨?_, ex⟩
  refine ⟨?_, fun b hb z => ?_, fun b hb => ?_, by simp [ok.len], fun n ob' b e1 e2 => ?_⟩
  · rw [List.nodup_append]
    refine ⟨ok.nd, by simp, fun x hx y hy e => ?_⟩
    rw [List.mem_singleton] at hy
    subst hy; subst e
    exact nW (.inr hx)
  · rcases List.mem_append.mp hb with h | h
    · exact ok.dj b h z
    · rw [List.mem_singleton] at h; subst h
      exact nW (.inl z)
  · by_cases e : b = a
    · subst e; exact ⟨o, upd_same, hx⟩
    · have hb' : Wf G io b := hb.imp id fun z => by
        rcases List.mem_append.mp z with h | h
        · exact h
        · exact (e (List.mem_singleton.mp h)).elim
      obtain ⟨u, q, x⟩ := ok.trk b hb'
      exact ⟨u, s b u q, x⟩
  · by_cases hn : n < io.length
    · rw [List.getElem?_append_left hn] at e2
      rw [List.getElem?_append_left (by rw [ok.len]; exact hn)] at e1
      exact (ok.obs n ob' b e1 e2).mono ex.mono (fun u q => s b u q) fun dd ws q => s _ _ q
    · rw [List.getElem?_append_right (Nat.le_of_not_lt hn)] at e2
      rw [List.getElem?_append_right (by rw [ok.len]; exact Nat.le_of_not_lt hn)] at e1
      rw [ok.len] at e1
      have h0 : n - io.length = 0 := by
        cases h : n - io.length with
        | zero => rfl
        | succ k => rw [h] at e2; simp at e2
      rw [h0] at e1 e2
      simp only [List.getElem?_cons_zero, Option.some.injEq] at e1 e2
      subst e1; subst e2
      exact new
/-- a list of the store turns -/
theorem Fr.turnRef (f : Fr K F io st env sg H) {n : Nat} {us us' : List U} {vs' : List V} {a : Addr} (h1 : st[n]? = some (.lst us)) (h2 : io[n]? = some a) (r : Reps K (Wf (Gs F env sg) io) io H us' vs') :
    Fr K F io (st.set n (.lst us')) env sg (upd H a (.lst vs')) ∧ ExtO io H (Ow env sg) io (upd H a (.lst vs')) (Ow env sg) := by
  have ha : a ∈ io := List.mem_of_getElem? h2
  have hn : n < st.length := (List.getElem?_eq_some_iff.mp h1).1
  have keep : ∀ b o, b ≠ a → H b = some o → (upd H a (.lst vs')) b = some o := fun b o q h => by rw [upd_ne q]; exact h
  have ex : ExtO io H (Ow env sg) io (upd H a (.lst vs')) (Ow env sg) := ⟨⟨[], by simp, fun _ h => nomatch h⟩, fun b o q _ h => keep b o (fun e => q (e ▸ ha)) h, fun b o h => by
    by_cases e : b = a
    · subst e; exact ⟨_, upd_same⟩
    · exact ⟨o, keep b o e h⟩, fun b h => .inl h⟩
  have m := ex.mono (F := F)
  have nG : ∀ b, Gs F env sg b → b ≠ a := fun b hb e => f.ok.dj a ha (e ▸ hb)
  have nxa : ∀ (dd : Addr) (ws : List (Str × V)), H dd = some (.xd ws) → dd ≠ a := fun dd ws z e => by
    subst e
    obtain ⟨o, e1, x⟩ := f.ok.trk dd (.inr ha)
    rw [z] at e1; cases e1; exact x ws rfl
  refine ⟨⟨⟨f.ok.nd, f.ok.dj, fun b h => ?_, by simp [f.ok.len], fun k ob b e1 e2 => ?_⟩, ⟨f.er.len, fun j sl o g1 g2 => ?_⟩, f.nF, f.dd⟩, ex⟩
  · obtain ⟨o, e, x⟩ := f.ok.trk b h
    by_cases hb : b = a
    · subst hb; exact ⟨_, upd_same, nx_lst⟩
    · exact ⟨o, keep b o hb e, x⟩
  · by_cases hk : n = k
    · subst hk
      rw [List.getElem?_set_self hn] at e1
      rw [h2] at e2
      cases e1; cases e2
      exact ⟨vs', upd_same, r.mono m⟩
    · rw [List.getElem?_set_ne hk] at e1
      have nb : b ≠ a := fun e => by
        subst e
        exact hk ((List.getElem?_inj (List.getElem?_eq_some_iff.mp h2).1 f.ok.nd).mp (h2.trans e2.symm))
      exact (f.ok.obs k ob b e1 e2).mono m (fun u q => keep b u nb q) fun dd ws q => keep dd _ (nxa dd ws q) q
  · have q := f.er.sl j sl o g1 g2
    cases sl with
    | un => trivial
    | val u' => obtain ⟨v', q1, q2⟩ := q; exact ⟨v', q1, q2.mono m⟩
    | own w =>
      obtain ⟨b, vs1, q1, q2, q3, q4⟩ := q
      exact ⟨b, vs1, q1, q2, keep _ _ (nG b q2) q3, q4.mono m⟩
end
/-- a new list, of the store -/
def refL (f : DL) : DE := fun env st => (f env st).bind fun us st1 => .ok (.ref st1.length) (st1 ++ [.lst us])
def ixR (f g : DE) : DE := fun env st => (f env st).bind fun u st1 => (g env st1).bind fun v st2 => match u, v with
  | .ref n, .int i => match st2[n]? with
    | some (.lst us) => Rs.of (atI us i) st2
    | _ => .bad
  | _, _ => .bad
def sIxR (f g e : DE) : DS := fun env st => (e env st).out env fun v st1 => (f env st1).out env fun u st2 => (g env st2).out env fun k st3 => match u, k with
  | .ref n, .int i => match st3[n]? with
    | some (.lst us) => match ixN us.length i with
      | some j => .nx env (st3.set n (.lst (us.set j v)))
      | none => .bad
    | _ => .bad
  | _, _ => .bad
theorem Reps.set : ∀ {K : PySem.W.Frag} {W : Addr → Prop} {io : List Addr} {H : Hp} {us : List U} {vs : List V} {u : U} {v : V} (j : Nat), Reps K W io H us vs → Rep K W io H u v → Reps K W io H (us.set j u) (vs.set j v)
  | _, _, _, _, [], vs, u, v, j, h, r => by rw [h.isNil]; simpa using Reps.nil
  | _, _, _, _, w :: us, vs, u, v, 0, h, r => by
    obtain ⟨x, t, rfl, h1, h2⟩ := h.uncons
    exact .cons r h2
  | _, _, _, _, w :: us, vs, u, v, j + 1, h, r => by
    obtain ⟨x, t, rfl, h1, h2⟩ := h.uncons
    exact .cons h1 (Reps.set j h2 r)
theorem Reps.atI' {K : PySem.W.Frag} {W : Addr → Prop} {io : List Addr} {H : Hp} {us : List U} {vs : List V} {i : Int} {u : U} (h : Reps K W io H us vs) (e : atI us i = some u) : ∃ v, atI vs i = some v ∧ Rep K W io H u v := by
  unfold atI at e ⊢
  rw [← h.length]
  cases q : ixN us.length i with
  | none => rw [q] at e; cases e
  | some j =>
    rw [q] at e
    exact h.get e
theorem ref_list {K : PySem.W.Frag} {G : Addr → Prop} {io : List Addr} {st : Store} {H : Hp} {n : Nat} {us : List U} {v : V} (ok : Ok K G io st H) (h : st[n]? = some (.lst us)) (r : Rep K (Wf G io) io H (.ref n) v) : ∃ a vs, v = .ref a ∧ io[n]? = some a ∧ H a = some (.lst vs) ∧ Reps K (Wf G io) io H us vs := by
  unfold Rep at r
  obtain ⟨a, e1, rfl⟩ := r
  obtain ⟨vs, q1, q2⟩ := ok.obs n _ a h e1
  exact ⟨a, vs, rfl, e1, q1, q2⟩
section
variable {X : Cx} {xs : XS} {wx : WX} {pos : Pos}
theorem d_refL {e : Expr} {f : DL} (h : PE X e (tDL X.K xs wx f)) : PE X e (tD X.K xs wx (refL f)) := pe_imp h fun sg H Q q => by
  obtain ⟨G, io, st, env, ok, er, w⟩ := q
  refine ⟨G, io, st, env, ok, er, w.bind.impR fun st1 io1 H1 us ok1 e1 w1 vs a rvs na => ?_⟩
  have sm : Same H1 (upd H1 a (.lst vs)) := same_upd na
  have m : Mono G io1 H1 G (io1 ++ [a]) (upd H1 a (.lst vs)) := ⟨⟨[a], rfl⟩, fun b o n h => ⟨sm b o h, fun z => z.elim (fun y => n (.inl y)) fun y => by
    rcases List.mem_append.mp y with y | y
    · exact n (.inr y)
    · rw [List.mem_singleton] at y
      subst y
      rw [na] at h; cases h⟩⟩
  obtain ⟨ok2, e2⟩ := ok1.alloc (o := .lst vs) (ob := .lst us) na nx_lst ⟨vs, upd_same, rvs.mono m⟩
  refine w1 (io1 ++ [a]) _ ok2 e2 (.ref a) ?_
  unfold Rep
  refine ⟨a, ?_, rfl⟩
  rw [ok1.len, List.getElem?_append_right (Nat.le_refl _)]
  simp
theorem d_ixR {a b : Expr} {f g : DE} (ha : PE X a (tD X.K xs wx f)) (hb : PE X b (tD X.K xs wx g)) (hs : PlainIx b) : PE X (.Subscript a b pos) (tD X.K xs wx (ixR f g)) := pe_imp (pe_ix ix_list ha hb hs) fun sg H Q h => by
  obtain ⟨G, io, st, env, ok, er, w⟩ := h
  refine ⟨G, io, st, env, ok, er, w.bind.impR fun st1 io1 H1 u ok1 e1 w1 v rv => ?_⟩
  refine ⟨G, io1, st1, env, ok1, er.ext ok.dj e1, w1.bind.impR fun st2 io2 H2 u2 ok2 e2 w2 v2 rv2 => ?_⟩
  split at w2
  · rename_i n i
    split at w2
    · rename_i us hu
      obtain ⟨w', hw, w3⟩ := w2.pure
      obtain ⟨a, vs, rfl, q1, q2, q3⟩ := ref_list ok2 hu (rv.ext e2)
      have e : v2 = .int i := by unfold Rep at rv2; exact rv2
      subst e
      obtain ⟨y, hy, ry⟩ := q3.atI' hw
      exact ⟨a, vs, i, y, rfl, rfl, .inl (.inl q2), hy, w3.here ok2 y ry⟩
    · exact w2.elim
  · exact w2.elim
theorem s_ixR {o i e : Expr} {f g h : DE} {pos' : Pos} (ho : PE X o (tD X.K xs wx f)) (hi : PE X i (tD X.K xs wx g)) (he : PE X e (tD X.K xs wx h)) (hs : swapsWithSole [.Subscript o i pos'] e pos.line X.env = Pure.pure false := by rfl) (hw : swappedStores [.Subscript o i pos'] e X.env = Pure.pure none := by rfl)
    (h1 : (assignEach [.Subscript o i pos'] X.env).map (·.2) = [assign (.Subscript o i pos') X.env] := by rfl)
    (ha : ∀ v, assign (.Subscript o i pos') X.env v = (do
      let ov ← holding [v] (eval o X.env)
      let iv ← holding [v, ov] (eval i X.env)
      standAt pos'
      holding [v, ov, iv] (setItem ov iv v)
      release [v, ov, iv] []) := by intro _; rfl) : PS X (.Assign [.Subscript o i pos'] e pos) (tDS X.K xs wx (sIxR f g h)) :=
  ps_imp (ps_asg he (pg_sub ho hi set_list ha) hs hw h1) fun D sg H q => by
    obtain ⟨F, io, st, env, fr, w⟩ := q
    refine ⟨Gs F env sg, io, st, env, fr.ok, fr.er, (WantsS.expr fr w).impR fun st1 io1 H1 v ok1 e1 z x rx => ?_⟩
    refine ⟨Gs F env sg, io1, st1, env, z.1.ok, z.1.er, (WantsS.expr z.1 z.2).impR fun st2 io2 H2 u ok2 e2 z2 y ry => ?_⟩
    refine ⟨Gs F env sg, io2, st2, env, z2.1.ok, z2.1.er, (WantsS.expr z2.1 z2.2).impR fun st3 io3 H3 k ok3 e3 z3 t rt => ?_⟩
    have z4 := z3.2
    split at z4
    · rename_i n i
      split at z4
      · rename_i us hu
        split at z4
        · rename_i j hj
          obtain ⟨a, vs, rfl, q1, q2, q3⟩ := ref_list ok3 hu (ry.ext e3)
          have et : t = .int i := by unfold Rep at rt; exact rt
          subst et
          refine ⟨a, vs, i, j, rfl, rfl, q2, by rw [← q3.length]; exact hj, ?_⟩
          obtain ⟨f4, e4⟩ := z3.1.turnRef hu q1 (q3.set j ((rx.ext e2).ext e3))
          exact z4 _ _ _ f4 e4
        · exact z4.elim
      · exact z4.elim
    · exact z4.elim
end
@[simp] theorem refL_ap (f : DL) (env : Env) (st : Store) : refL f env st = (f env st).bind fun us st1 => .ok (.ref st1.length) (st1 ++ [.lst us]) := (rfl)
@[simp] theorem ixR_ap (f g : DE) (env : Env) (st : Store) : ixR f g env st = (f env st).bind fun u st1 => (g env st1).bind fun v st2 => match u, v with
  | .ref n, .int i => match st2[n]? with
    | some (.lst us) => Rs.of (atI us i) st2
    | _ => .bad
  | _, _ => .bad := (rfl)
@[simp] theorem sIxR_ap (f g e : DE) (env : Env) (st : Store) : sIxR f g e env st = (e env st).out env fun v st1 => (f env st1).out env fun u st2 => (g env st2).out env fun k st3 => match u, k with
  | .ref n, .int i => match st3[n]? with
    | some (.lst us) => match ixN us.length i with
      | some j => .nx env (st3.set n (.lst (us.set j v)))
      | none => .bad
    | _ => .bad
  | _, _ => .bad := (rfl)
end D
namespace D
open PySem L2
/-! ### a slice of a list of the store -/
def slR (f : DE) (a b : DO) : DL := fun env st => (f env st).bind fun u st1 => (a env st1).bind fun l st2 => (b env st2).bind fun h st3 => match u with
  | .ref n => match st3[n]? with
    | some (.lst us) => .ok (cutL us l h) st3
    | _ => .bad
  | _ => .bad
section
variable {X : Cx} {xs : XS} {wx : WX} {pos : Pos}
theorem l_sliceR {e : Expr} {lo hi : Option Expr} {p2 : Pos} {f : DE} {a b : DO} (he : PE X e (tD X.K xs wx f)) (hl : PO X lo (tDO X.K xs wx a)) (hu : PO X hi (tDO X.K xs wx b)) : PE X (.Subscript e (.Slice lo hi none p2) pos) (tDL X.K xs wx (slR f a b)) :=
  pe_imp (pe_slice sl_list he hl hu) fun sg H Q h => by
    obtain ⟨G, io, st, env, ok, er, w⟩ := h
    refine ⟨G, io, st, env, ok, er, w.bind.impR fun st1 io1 H1 u ok1 e1 w1 v rv => ?_⟩
    refine ⟨G, io1, st1, env, ok1, er.ext ok.dj e1, w1.bind.impR fun st2 io2 H2 l ok2 e2 w2 => ?_⟩
    refine ⟨G, io2, st2, env, ok2, (er.ext ok.dj e1).ext ok1.dj e2, w2.bind.impR fun st3 io3 H3 h ok3 e3 w3 => ?_⟩
    have r1 := (rv.ext e2).ext e3
    cases u with
    | ref n =>
      simp only at w3
      split at w3
      · rename_i us hus
        obtain ⟨a, vs, rfl, q1, q2, rs⟩ := ref_list ok3 hus r1
        refine ⟨a, vs, rfl, .inl (.inl q2), fun p hp => w3.here ok3 _ p ?_ hp⟩
        unfold cutL cutV
        rw [rs.length]
        exact (rs.drop _).take _
      · exact w3.elim
    | _ => exact w3.elim
end
@[simp] theorem slR_ap (f : DE) (a b : DO) (env : Env) (st : Store) : slR f a b env st = (f env st).bind fun u st1 => (a env st1).bind fun l st2 => (b env st2).bind fun h st3 => match u with
  | .ref n => match st3[n]? with
    | some (.lst us) => .ok (cutL us l h) st3
    | _ => .bad
  | _ => .bad := (rfl)
end D
namespace D
open PySem L2
/-! ### a list of the frame's own is given back, as one of the store -/
def sRetR (i : Nat) : DS := fun env st => match env[i]? with
  | some (.own us) => .rt (.ref st.length) (st ++ [.lst us])
  | _ => .bad
section
variable {X : Cx} {xs : XS} {wx : WX} {pos p : Pos}
theorem s_retR {i : Nat} {x : Str} (hN : X.N[i]? = some x := by rfl) (hv : Vis X.env.scope x := by first | exact Or.inl rfl | exact Or.inr (Or.inl rfl) | exact Or.inr (Or.inr rfl)) (hd : (x == ("__debug__" : Str)) = false := by decide) (hcd : (x == ("__classdict__" : Str)) = false := by decide) :
    PS X (.Return (some (.Name x p)) pos) (tDS X.K xs wx (sRetR i)) := ps_imp (ps_ret (pe_var (i := i) hN hv hd hcd)) fun D sg H h => by
  obtain ⟨F, io, st, env, f, w⟩ := h
  unfold sRetR at w
  split at w
  · rename_i us q
    obtain ⟨a, vs, e1, e2, r⟩ := f.slot q
    have oa : Ow env sg a := ⟨i, us, q, e1⟩
    have nio : a ∉ io := fun z => f.ok.dj a z (.inr oa)
    have m : Mono (Gs F env sg) io H F (io ++ [a]) H := ⟨⟨[a], rfl⟩, fun b o n h => ⟨h, fun z => z.elim (fun y => n (.inl (.inl y))) fun y => by
      rcases List.mem_append.mp y with y | y
      · exact n (.inr y)
      · rw [List.mem_singleton] at y
        subst y
        exact n (.inl (.inr oa))⟩⟩
    refine ⟨.ref a, e1, w (io ++ [a]) H (.ref a) ⟨?_, fun b hb z => ?_, fun b hb => ?_, by simp [f.ok.len], fun n ob b g1 g2 => ?_⟩ ⟨⟨[a], rfl, fun b hb => .inr (by rw [List.mem_singleton] at hb; rw [hb]; exact oa)⟩, fun _ _ _ _ h => h, fun _ o h => ⟨o, h⟩, fun _ h => h.elim⟩ ?_⟩
    · rw [List.nodup_append]
      refine ⟨f.ok.nd, by simp, fun x hx y hy e => ?_⟩
      rw [List.mem_singleton] at hy
      subst hy; subst e
      exact nio hx
    · rcases List.mem_append.mp hb with h | h
      · exact f.ok.dj b h (.inl z)
      · rw [List.mem_singleton] at h; subst h
        exact f.nF b oa z
    · rcases hb with h | h
      · exact f.ok.trk b (.inl (.inl h))
      · rcases List.mem_append.mp h with h | h
        · exact f.ok.trk b (.inr h)
        · rw [List.mem_singleton] at h; subst h
          exact ⟨_, e2, nx_lst⟩
    · by_cases hn : n < io.length
      · rw [List.getElem?_append_left hn] at g2
        rw [List.getElem?_append_left (by rw [f.ok.len]; exact hn)] at g1
        exact (f.ok.obs n ob b g1 g2).mono m (fun _ q => q) fun _ _ q => q
      · rw [List.getElem?_append_right (Nat.le_of_not_lt hn)] at g2
        rw [List.getElem?_append_right (by rw [f.ok.len]; exact Nat.le_of_not_lt hn)] at g1
        rw [f.ok.len] at g1
        have h0 : n - io.length = 0 := by
          cases h : n - io.length with
          | zero => rfl
          | succ k => rw [h] at g2; simp at g2
        rw [h0] at g1 g2
        simp only [List.getElem?_cons_zero, Option.some.injEq] at g1 g2
        subst g1; subst g2
        exact ⟨vs, e2, r.mono m⟩
    · unfold Rep
      refine ⟨a, ?_, rfl⟩
      rw [f.ok.len, List.getElem?_append_right (Nat.le_refl _)]
      simp
  · exact w.elim
end
@[simp] theorem sRetR_ap (i : Nat) (env : Env) (st : Store) : sRetR i env st = match env[i]? with
  | some (.own us) => .rt (.ref st.length) (st ++ [.lst us])
  | _ => .bad := (rfl)
end D
namespace D
open PySem L2
/-! ### list.index of a text -/
def txtsOf : List U → Option (List Str)
  | [] => some []
  | .str x :: us => (txtsOf us).map (x :: ·)
  | _ :: _ => none
theorem txtsOf_rep {K : PySem.W.Frag} {W : Addr → Prop} {io : List Addr} {H : Hp} : ∀ {us : List U} {ws : List Str} {vs : List V}, txtsOf us = some ws → Reps K W io H us vs → vs = ws.map V.str
  | [], ws, vs, e, r => by cases e; rw [r.isNil]; rfl
  | u :: us, ws, vs, e, r => by
    obtain ⟨v, t, rfl, h1, h2⟩ := r.uncons
    cases u with
    | str x =>
      obtain ⟨ws', e', rfl⟩ := Option.map_eq_some_iff.mp e
      rw [h1.str', txtsOf_rep e' h2]; rfl
    | _ => cases e
def idx2 : U → U → Option U
  | .lst us, .str x => (txtsOf us).bind fun ws => if x ∈ ws ∧ ws.length ≤ 1000 then some (.int (ws.idxOf x : Nat)) else none
  | _, _ => none
def idxD (f g : DE) : DE := fun env st => (f env st).bind fun u st1 => match u with
  | .lst us => (g env st1).bind fun v st2 => Rs.of (idx2 (.lst us) v) st2
  | _ => .bad
section
variable {X : Cx} {xs : XS} {wx : WX} {pos : Pos}
theorem d_index {o e : Expr} {f g : DE} {apos : Pos} (ho : PE X o (tD X.K xs wx f)) (he : PE X e (tD X.K xs wx g)) (hbase : attributeBase o "index" X.env (eval o X.env) = eval o X.env := by rfl)
    (hfew : ((backTo pos (starEach [e] X.env)).all (fun x => !x.1) && (backToKw pos (keywordEach [] X.env)).all (fun x => x.1.isSome) && decide ([e].length + ([] : List Keyword).length + (if ([] : List Keyword).isEmpty then 0 else 1) < 30)) = true := by rfl)
    (hline : (apos.endLine == pos.line) = true := by rfl) (hs : starEach (e :: []) X.env = (false, eval e X.env) :: starEach [] X.env := by rfl) (hplain : (backTo pos (starEach [] X.env)).any (·.1) = false := by rfl) :
    PE X (.Call (.Attribute o "index" apos) [e] [] pos) (tD X.K xs wx (idxD f g)) :=
  pe_imp (pe_bm PySem.F.plainAttrs_list PySem.F.slot_list_index PySem.F.type_list_index mt_index ho (pa_cons he pa_nil hs) hbase hfew hline hs hplain) fun sg H Q h => by
    obtain ⟨G, io, st, env, ok, er, w⟩ := h
    refine ⟨G, io, st, env, ok, er, w.bind.impR fun st1 io1 H1 u ok1 e1 w1 v rv => ?_⟩
    cases u with
    | lst us =>
      obtain ⟨a, vs, rfl, l, rs⟩ := rv.lst'
      refine ⟨.inl ⟨rfl, vs, l.sq⟩, G, io1, st1, env, ok1, er.ext ok.dj e1, (Wants.bind w1).impR fun st2 io2 H2 y ok2 e2 w2 x rx => ?_⟩
      obtain ⟨r, hr, w3⟩ := w2.pure
      cases y with
      | str x' =>
        have hr : ((txtsOf us).bind fun ws => if x' ∈ ws ∧ ws.length ≤ 1000 then some (U.int (ws.idxOf x' : Nat)) else none) = some r := hr
        cases ht : txtsOf us with
        | none => rw [ht] at hr; cases hr
        | some ws =>
          rw [ht] at hr
          simp only [Option.bind_some] at hr
          split at hr
          · rename_i hm
            cases hr
            have ev := txtsOf_rep ht (rs.ext e2)
            have ex := rx.str'
            subst ev
            subst ex
            have hl : ws.idxOf x' < ws.length := List.idxOf_lt_length_iff.mpr hm.1
            refine ⟨a, ws.map V.str, .str x', ws.idxOf x', .str ws[ws.idxOf x'], rfl, rfl, ?_, rfl, ?_, ?_, ?_, fun m z hm' hz => ?_, w3.here ok2 _ (rInt _)⟩
            · obtain ⟨a', vs', ea, la, ra⟩ := (rv.ext e2).lst'
              cases ea
              have := txtsOf_rep ht ra
              subst this
              exact la.sq
            · rw [List.all_eq_true]
              intro z hz
              obtain ⟨w, _, rfl⟩ := List.mem_map.mp hz
              rfl
            · rw [List.getElem?_map, List.getElem?_eq_getElem hl]; rfl
            · show (ws[ws.idxOf x'] == x') = true
              rw [List.getElem_idxOf hl]; simp
            · rw [List.getElem?_map] at hz
              obtain ⟨w, hw, rfl⟩ := Option.map_eq_some_iff.mp hz
              show (w == x') = false
              have hml : m < ws.length := by omega
              rw [List.getElem?_eq_getElem hml] at hw
              cases hw
              have hm2 : m < ws.findIdx (· == x') := hm'
              have := List.not_of_lt_findIdx hm2
              simpa using this
          · cases hr
      | _ => cases hr
    | _ => exact w1.elim
end
end D
namespace D
open PySem L2
/-! ### tuple(text) -/
def tupSN : List U → Option U
  | [.str x] => if x.cps.size ≤ sizeLine then some (.tup (x.cps.toList.map fun c => U.str ⟨#[c]⟩)) else none
  | _ => none
theorem signs_reps {K : PySem.W.Frag} {W : Addr → Prop} {io : List Addr} {H : Hp} : ∀ cs : List Nat, Reps K W io H (cs.map fun c => U.str ⟨#[c]⟩) (cs.map fun c => V.str ⟨#[c]⟩)
  | [] => by unfold Reps; rfl
  | c :: cs => by unfold Reps; exact ⟨_, _, rfl, rStr _, signs_reps cs⟩
section
variable {X : Cx}
theorem c_tupS (hc : X.calm = true) : CallR X (.type "tuple") (PN X.K tupSN) := by
  intro pins s sg H vs us Q I r h
  obtain ⟨G, io, st, ws, u, ok, rs, e, q⟩ := h
  unfold tupSN at e
  split at e
  · rename_i x
    split at e
    · rename_i hz
      cases e
      obtain ⟨v, rfl, rv⟩ := rs.one
      have e1 := rv.str'; subst e1
      obtain ⟨z, rfl, rx⟩ := vals1 r
      obtain ⟨t, rfl⟩ := rx
      refine PySem.call_tuple_str (I.ok.hd hc) x t (fun h' tk acc kp hacc => ?_) hz
      have I1 : Inv X pins sg H { s with heap := h', toks := tk } := I.kept kp
      have hl : acc.toList.length = acc.size := by simp
      have vv : Vals (x.cps.toList.map fun c => V.str ⟨#[c]⟩) acc.toList := vals_of_at (by rw [List.length_map, hl, hacc.1]; simp) fun j y w h1 h2 => by
        obtain ⟨c, t', hcx, rfl⟩ := hacc.2 j w (by rw [← Array.getElem?_toList]; exact h2)
        rw [List.getElem?_map, Array.getElem?_toList, hcx] at h1
        cases h1
        exact ⟨t', rfl⟩
      have I2 : Inv X pins sg (upd H h'.objs.size (.tup (x.cps.toList.map fun c => V.str ⟨#[c]⟩))) { s with heap := h'.push { cls := .type "tuple", data := .seq acc }, toks := tk } :=
        I1.laid (t' := tk) (fun b o e => Heap.get?_push_of_some _ e) (Nat.le_refl _) (show ObjOk X.prog X.w _ _ _ (.tup _) from ⟨by rw [List.length_map]; simpa using hz, acc.toList, vv, PyProof.Rows.IsTup.new _ _⟩)
      have hp : H h'.objs.size = none := I1.hok.fresh (Nat.le_refl _)
      exact ⟨.ref h'.objs.size, _, I2, rfl, q _ _ (same_upd hp) (ok.newT hp (signs_reps _))⟩
    · cases e
  · cases e
end
@[simp] theorem tupSN_ap (x : Str) : tupSN [.str x] = if x.cps.size ≤ 16777216 then some (.tup (x.cps.toList.map fun c => U.str ⟨#[c]⟩)) else none := by rw [← sizeLine_val]; rfl
end D
namespace D
open PySem L2
/-! ### sep.join(texts) -/
def join2 (a : Str) (u : U) : Option U := (txts u).bind fun ys => if (ys.map (·.length)).sum + ys.length * a.length ≤ 16777216 then some (.str (Txt.join a ys)) else none
def joinD (f g : DE) : DE := fun env st => (f env st).bind fun u st1 => match u with
  | .str a => (g env st1).bind fun v st2 => Rs.of (join2 a v) st2
  | _ => .bad
/-- sorted(texts) -/
def sortTxt (u : U) : Option (List U) := (match u with
  | .lst us => strsU us
  | _ => none).bind fun ys => if ys.length < 64 then some ((sortS ys).map U.str) else none
/-! ### lists of the store -/
def lenR (f : DE) : DE := fun env st => (f env st).bind fun u st1 => match u with
  | .ref n => match st1[n]? with
    | some (.lst us) => .ok (.int us.length) st1
    | _ => .bad
  | _ => .bad
def catR (f g : DE) : DL := fun env st => (f env st).bind fun u st1 => (g env st1).bind fun v st2 => match u, v with
  | .ref n, .lst ws => match st2[n]? with
    | some (.lst us) => if us.length + ws.length ≤ sizeLine then .ok (us ++ ws) st2 else .bad
    | _ => .bad
  | _, _ => .bad
def sExtR (f g : DE) : DS := fun env st => (f env st).out env fun u st1 => match u with
  | .ref n => match st1[n]? with
    | some (.lst _) => (g env st1).out env fun v st2 => match st2[n]?, seqU v with
      | some (.lst us), some ws => if us.length + ws.length ≤ sizeLine then .nx env (st2.set n (.lst (us ++ ws))) else .bad
      | _, _ => .bad
    | _ => .bad
  | _ => .bad
/-! ### lists of the frame's own that are lent -/
mutual
def noRef : U → Bool
  | .ref _ => false
  | .tup us => noRefs us
  | .lst us => noRefs us
  | .dct _ us => noRefs us
  | _ => true
def noRefs : List U → Bool
  | [] => true
  | u :: us => noRef u && noRefs us
end
mutual
theorem Rep.io_any {K : PySem.W.Frag} {W W' : Addr → Prop} {io io' : List Addr} {H : Hp} (hW : ∀ a, W' a → W a) : ∀ (u : U) (v : V), noRef u = true → Rep K W io H u v → Rep K W' io' H u v
  | .non, v, _, h => by unfold Rep at h ⊢; exact h
  | .bl b, v, _, h => by unfold Rep at h ⊢; exact h
  | .int i, v, _, h => by unfold Rep at h ⊢; exact h
  | .str x, v, _, h => by unfold Rep at h ⊢; exact h
  | .ty x, v, _, h => by unfold Rep at h ⊢; exact h
  | .ref x, v, n, h => by unfold noRef at n; cases n
  | .tup us, v, n, h => by
    unfold Rep at h ⊢
    unfold noRef at n
    obtain ⟨a, vs, e, l, r⟩ := h
    refine ⟨a, vs, e, ?_, Reps.io_any hW us vs n r⟩
    unfold LT at l ⊢
    exact l.imp (fun z => ⟨z.1, fun y => z.2 (hW a y)⟩) id
  | .lst us, v, n, h => by
    unfold Rep at h ⊢
    unfold noRef at n
    obtain ⟨a, vs, e, l, r⟩ := h
    refine ⟨a, vs, e, ?_, Reps.io_any hW us vs n r⟩
    unfold LL at l ⊢
    exact ⟨l.1, fun z => l.2 (hW a z)⟩
  | .dct ks us, v, n, h => by
    unfold Rep at h ⊢
    unfold noRef at n
    obtain ⟨a, vs, e, l, r⟩ := h
    refine ⟨a, vs, e, ?_, Reps.io_any hW us vs n r⟩
    unfold LD at l ⊢
    exact ⟨fun z => l.1 (hW a z), l.2⟩
  | .scr ns, v, n, h => by
    unfold Rep at h ⊢
    obtain ⟨a, e, l⟩ := h
    refine ⟨a, e, ?_⟩
    unfold LS at l ⊢
    exact l.imp (fun z => ⟨z.1, fun y => z.2 (hW a y)⟩) id
theorem Reps.io_any {K : PySem.W.Frag} {W W' : Addr → Prop} {io io' : List Addr} {H : Hp} (hW : ∀ a, W' a → W a) : ∀ (us : List U) (vs : List V), noRefs us = true → Reps K W io H us vs → Reps K W' io' H us vs
  | [], vs, _, h => by unfold Reps at h ⊢; exact h
  | u :: us, vs, n, h => by
    unfold Reps at h ⊢
    unfold noRefs at n
    rw [Bool.and_eq_true] at n
    obtain ⟨v, r, e, q, t⟩ := h
    exact ⟨v, r, e, Rep.io_any hW u v n.1 q, Reps.io_any hW us r n.2 t⟩
end
/-- f(x), x a list of the frame's own, lent to a function that keeps nothing of it -/
def appO (g : List U → Store → Rs U) (i : Nat) : DE := fun env st => match ownL env[i]? with
  | some us => match g [.lst us] [] with
    | .ok u [] => if flatU u && noRefs us then .ok u st else .bad
    | _ => .bad
  | none => .bad
def binOL (g : U → U → Option U) (i : Nat) (fb : DE) : DE := fun env st => match ownL env[i]? with
  | some us => (fb env st).bind fun v st1 => Rs.of (flat1 (g (.lst us) v)) st1
  | none => .bad
def sPop (i : Nat) : DS := fun env st => match env[i]? with
  | some (.own us) => if 0 < us.length then .nx (env.set i (.own us.dropLast)) st else .bad
  | _ => .bad
section
variable {X : Cx} {xs : XS} {wx : WX} {pos : Pos}
theorem d_join {o e : Expr} {f g : DE} {apos : Pos} (ho : PE X o (tD X.K xs wx f)) (he : PE X e (tD X.K xs wx g)) (hs : starEach [e] X.env = [(false, eval e X.env)] := by rfl) (hbase : attributeBase o "join" X.env (eval o X.env) = eval o X.env := by rfl) (hline : (apos.endLine == pos.line) = true := by rfl) :
    PE X (.Call (.Attribute o "join" apos) [e] [] pos) (tD X.K xs wx (joinD f g)) := pe_imp (pe_join ho he hs hbase hline) fun sg H Q h => by
  obtain ⟨G, io, st, env, ok, er, w⟩ := h
  refine ⟨G, io, st, env, ok, er, w.bind.impR fun st1 io1 H1 u ok1 e1 w1 v rv => ?_⟩
  cases u with
  | str a =>
    have ev := rv.str'
    subst ev
    refine ⟨⟨a, rfl⟩, G, io1, st1, env, ok1, er.ext ok.dj e1, (Wants.bind w1).impR fun st2 io2 H2 u2 ok2 e2 w2 v2 rv2 => ?_⟩
    obtain ⟨r, hr, w3⟩ := w2.pure
    unfold join2 at hr
    rw [Option.bind_eq_some_iff] at hr
    obtain ⟨ys, hy, hr⟩ := hr
    split at hr
    · rename_i hz
      cases hr
      obtain ⟨l, rfl, sq⟩ := txts_rep rv2 hy
      exact ⟨a, l, ys, rfl, rfl, sq, hz, w3.here ok2 _ (rStr _)⟩
    · cases hr
  | _ => exact w1.elim
theorem l_sorted {e : Expr} {p : Pos} {f : DE} (hg : Gl X "sorted") (hm : X.mg "sorted" = none) (he : PE X e (tD X.K xs wx f)) (hs : starEach [e] X.env = (false, eval e X.env) :: starEach [] X.env := by rfl) :
    PE X (.Call (.Name "sorted" p) [e] [] pos) (tDL X.K xs wx (itE sortTxt f)) := by
  refine pe_imp (pe_callB (pos := pos) (p := p) cr_sortedS hg hm bt_sorted (pa_cons he pa_nil hs) (by decide) (by decide) hs rfl) fun sg H Q h => ?_
  obtain ⟨G, io, st, env, ok, er, w⟩ := h
  refine ⟨G, io, st, env, ok, er, w.bind.impR fun st1 io1 H1 u ok1 e1 w1 v rv => ?_⟩
  obtain ⟨ws, hu, w2⟩ := w1.pure
  unfold sortTxt at hu
  rw [Option.bind_eq_some_iff] at hu
  obtain ⟨ys, hy, hu⟩ := hu
  split at hu
  · rename_i hz
    cases hu
    cases u with
    | lst us =>
      obtain ⟨l, vs, rfl, ll, rr⟩ := rv.lst'
      have hy : strsU us = some ys := hy
      rw [strs_eq hy] at rr
      rw [Reps.ofStrs rr] at ll
      refine ⟨l, ys, rfl, ll.sq, hz, fun zs q pm hs hq => ?_⟩
      rw [sort_unique hs pm]
      exact w2.here ok1 _ q (Reps.strs _) hq
    | _ => cases hy
  · cases hu
theorem d_lenR {e : Expr} {p : Pos} {f : DE} (hg : Gl X "len") (hm : X.mg "len" = none) (he : PE X e (tD X.K xs wx f)) (hs : starEach [e] X.env = (false, eval e X.env) :: starEach [] X.env := by rfl) :
    PE X (.Call (.Name "len" p) [e] [] pos) (tD X.K xs wx (lenR f)) := by
  refine pe_imp (pe_callB (pos := pos) (p := p) call_len_seq hg hm bt_len (pa_cons he pa_nil hs) (by decide) (by decide) hs rfl) fun sg H Q h => ?_
  obtain ⟨G, io, st, env, ok, er, w⟩ := h
  refine ⟨G, io, st, env, ok, er, w.bind.impR fun st1 io1 H1 u ok1 e1 w1 v rv => ?_⟩
  cases u with
  | ref n =>
    simp only at w1
    split at w1
    · rename_i us hus
      obtain ⟨a, vs, rfl, q1, q2, rs⟩ := ref_list ok1 hus rv
      refine ⟨a, vs, rfl, .inl (.inl (.inl q2)), ?_⟩
      rw [← rs.length]
      exact Wants.here (a := U.int (us.length : Nat)) w1 ok1 _ (rInt _)
    · exact w1.elim
  | _ => exact w1.elim
theorem l_catR {a b : Expr} {f g : DE} (ha : PE X a (tD X.K xs wx f)) (hb : PE X b (tD X.K xs wx g)) : PE X (.BinOp a .Add b pos) (tDL X.K xs wx (catR f g)) :=
  pe_imp (pe_op op_cat ha hb) fun sg H Q q => by
    obtain ⟨G, io, st, env, ok, er, w⟩ := q
    refine ⟨G, io, st, env, ok, er, w.bind.impR fun st1 io1 H1 u ok1 e1 w1 v rv => ?_⟩
    refine ⟨G, io1, st1, env, ok1, er.ext ok.dj e1, w1.bind.impR fun st2 io2 H2 u2 ok2 e2 w2 v2 rv2 => ?_⟩
    split at w2
    · rename_i n ws
      split at w2
      · rename_i us hus
        split at w2
        · rename_i hz
          obtain ⟨p, vs, rfl, q1, q2, rs⟩ := ref_list ok2 hus (rv.ext e2)
          obtain ⟨p', ys', rfl, l', r'⟩ := rv2.lst'
          refine ⟨p, p', vs, ys', rfl, rfl, q2, l'.1, by rw [← rs.length, ← r'.length]; exact hz, fun q hq => ?_⟩
          exact w2.here ok2 _ q (rs.append r') hq
        · exact w2.elim
      · exact w2.elim
    · exact w2.elim
theorem s_extR {o e : Expr} {f g : DE} {p1 : Pos} (ho : PE X o (tD X.K xs wx f)) (he : PE X e (tD X.K xs wx g)) (hbase : attributeBase o "extend" X.env (eval o X.env) = eval o X.env := by rfl)
    (hfew : ((backTo pos (starEach [e] X.env)).all (fun x => !x.1) && (backToKw pos (keywordEach [] X.env)).all (fun x => x.1.isSome) && decide ([e].length + ([] : List Keyword).length + (if ([] : List Keyword).isEmpty then 0 else 1) < 30)) = true := by rfl)
    (hline : (p1.endLine == pos.line) = true := by rfl) (hs : starEach (e :: []) X.env = (false, eval e X.env) :: starEach [] X.env := by rfl) (hplain : (backTo pos (starEach [] X.env)).any (·.1) = false := by rfl)
    (hsw : swapsWith (.Call (.Attribute o "extend" p1) [e] [] pos) none pos.line X.env = Pure.pure false := by rfl) {pos2 : Pos} :
    PS X (.Expr (.Call (.Attribute o "extend" p1) [e] [] pos) pos2) (tDS X.K xs wx (sExtR f g)) := by
  refine ps_imp (ps_expr (pe_bm PySem.F.plainAttrs_list PySem.F.slot_list_extend PySem.F.type_list_extend mt_extA ho (pa_cons he pa_nil hs) hbase hfew hline hs hplain) hsw) fun D sg H h => ?_
  obtain ⟨F, io, st, env, fr, w⟩ := h
  refine ⟨Gs F env sg, io, st, env, fr.ok, fr.er, (WantsS.expr fr w).impR fun st1 io1 H1 u ok1 e1 z x rx => ?_⟩
  have z1 := z.2
  cases u with
  | ref n =>
    simp only at z1
    split at z1
    · rename_i us0 hus0
      obtain ⟨a, vs0, rfl, q1, q2, q3⟩ := ref_list ok1 hus0 rx
      refine ⟨.inl ⟨rfl, vs0, .inl (.inl q2)⟩, Gs F env sg, io1, st1, env, z.1.ok, z.1.er, (WantsS.expr z.1 z1).impR fun st2 io2 H2 u2 ok2 e2 z2 y ry => ?_⟩
      have z3 := z2.2
      split at z3
      · rename_i us ws hus hws
        split at z3
        · rename_i hl
          obtain ⟨a', vs, ea, p1, p2, p3⟩ := ref_list ok2 hus (rx.ext e2)
          cases ea
          cases u2 with
          | lst us' =>
            cases hws
            obtain ⟨b, zs, rfl, lb, rb⟩ := ry.lst'
            refine .inl ⟨a, b, vs, zs, rfl, rfl, p2, lb.1, by rw [← p3.length, ← rb.length]; exact hl, ?_⟩
            have y := z2.1.turnRef hus p1 (p3.append rb)
            exact z3 io2 _ _ y.1 y.2
          | tup us' =>
            cases hws
            obtain ⟨b, zs, rfl, lb, rb⟩ := ry.tup'
            refine .inr ⟨a, b, vs, zs, rfl, rfl, p2, lb.sq, by rw [← p3.length, ← rb.length]; exact hl, ?_⟩
            have y := z2.1.turnRef hus p1 (p3.append rb)
            exact z3 io2 _ _ y.1 y.2
          | _ => cases hws
        · exact z3.elim
      · exact z3.elim
    · exact z1.elim
  | _ => exact z1.elim
theorem own_lent {K : PySem.W.Frag} {G : Addr → Prop} {io : List Addr} {st : Store} {H : Hp} {us : List U} {y : V} (ok : Ok K G io st H) (hn : noRefs us = true) (r : Rep K (Wf G io) io H (.lst us) y) :
    Ok K (Wf G io) [] [] H ∧ Reps K (Wf (Wf G io) []) [] H [.lst us] [y] := by
  have sub : ∀ a, Wf (Wf G io) [] a → Wf G io a := fun a h => h.elim id fun z => nomatch z
  refine ⟨⟨List.nodup_nil, fun a h => (nomatch h), fun a h => ok.trk a (sub a h), rfl, fun n ob a e _ => by rw [List.getElem?_nil] at e; cases e⟩, ?_⟩
  exact .cons (Rep.io_any sub (.lst us) y (by unfold noRef; exact hn) r) .nil
theorem d_callO {k : Nat} {x y : Str} {p p2 : Pos} {i : Nat} {g : List U → Store → Rs U} (F : Fn X.prog X.w X.K X.mg X.base xs x k 1 g) (tk : Takes X wx) (hr : Room k X.A) (hg : Gl X x)
    (hb : PE X (.Name y p2) (tVar i)) (hdb : (x == ("__debug__" : Str)) = false := by decide)
    (he : starEach [.Name y p2] X.env = (false, eval (.Name y p2) X.env) :: starEach [] X.env := by rfl) (hpl : (backTo pos (starEach [] X.env)).any (·.1) = false := by rfl) : PE X (.Call (.Name x p) [.Name y p2] [] pos) (tD X.K xs wx (appO g i)) := by
  obtain ⟨⟨f, fd, ps, h1, h2, h3, h4⟩, h5⟩ := F
  refine pe_imp (pe_callSD (E := WE wx) (dvs := []) h4 hr hg h1 h2 h3 .nil (fun s => passAt tk s) (pa_cons hb pa_nil he) hdb he hpl) fun sg H Q h => ?_
  obtain ⟨G, io, st, env, ok, er, w⟩ := h
  unfold appO at w
  cases hO : ownL env[i]? with
  | none => rw [hO] at w; exact w.elim
  | some us =>
    rw [hO] at w
    simp only at w
    obtain ⟨v, G', hy, sub, ok', ry⟩ := own_look ok er hO
    cases hG : g [.lst us] [] with
    | bad => rw [hG] at w; exact w.elim
    | ex c fs s => rw [hG] at w; exact w.elim
    | ok u s =>
      rw [hG] at w
      cases s with
      | cons ob s => exact w.elim
      | nil =>
        simp only at w
        split at w
        · rename_i hf
          rw [Bool.and_eq_true] at hf
          obtain ⟨okE, rE⟩ := own_lent ok' hf.2 ry
          refine ⟨v, hy, rfl, Wf G' io, [], [], [.lst us], okE, rE, ?_⟩
          rw [hG]
          intro io' H' ok2 e2 v' rv'
          have hio : io' = [] := List.length_eq_zero_iff.mp (by rw [← ok2.len]; rfl)
          subst hio
          have sm : Same H H' := fun a o e => e2.keep a o (fun z => nomatch z) e
          exact w.hereS ok sm v' (flat_any hf.1 rv')
        · exact w.elim
theorem binOL_read {g : U → U → Option U} {fb : DE} {i : Nat} {sg : L2.St} {H : Hp} {Q : VK} (h : tD X.K xs wx (binOL g i fb) sg H Q) : tOp (P2 X.K g) (tVar i) (tD X.K xs wx fb) sg H Q := by
  obtain ⟨G, io, st, env, ok, er, w⟩ := h
  unfold binOL at w
  cases hO : ownL env[i]? with
  | none => rw [hO] at w; exact w.elim
  | some us =>
    rw [hO] at w
    simp only at w
    obtain ⟨y, G', hy, sub, ok', ry⟩ := own_look ok er hO
    refine ⟨y, hy, G, io, st, env, ok, er, (Wants.bind w).impR fun st1 io1 H1 u ok1 e1 w1 v rv => ?_⟩
    obtain ⟨a, ha, w3⟩ := w1.pure
    obtain ⟨hg, hf⟩ := flat1_of ha
    obtain ⟨y', G2, hy', sub', ok2, ry'⟩ := own_look ok1 (er.ext ok.dj e1) hO
    rw [hy] at hy'
    cases hy'
    have m : Mono G io1 H1 G2 io1 H1 := ⟨⟨[], by simp⟩, fun b o n z => ⟨z, fun q => n (q.imp (sub' b) id)⟩⟩
    exact ⟨G2, io1, st1, .lst us, u, a, ok2, ry', rv.mono m, hg, fun v' H' s r => w3.hereS ok1 s v' (flat_any hf r)⟩
theorem t_cmpOL {op : CmpOp} {g : U → U → Option U} {a b : Expr} {fb : DE} {i : Nat} (ho : OpR X (compareOp op) (P2 X.K g)) (ha : PE X a (tVar i)) (hb : PE X b (tD X.K xs wx fb)) (hm : behindInMarks op b = false := by first | exact nomark _ | rfl) :
    PT X (.Compare a [op] [b] pos) (tDT X.K xs wx (tst (binOL g i fb))) := pt_imp (pt_cmpR ho ha hb hm) fun sg H Q h => by
  obtain ⟨G, io, st, env, ok, er, w⟩ := h
  refine binOL_read (Q := fun x H1 => ∃ k, x = .bl k ∧ Q k H1) ?_
  exact tst_read (t := tVar 0) ⟨G, io, st, env, ok, er, w⟩
theorem d_cmpOL {op : CmpOp} {g : U → U → Option U} {a b : Expr} {fb : DE} {i : Nat} (ho : OpR X (compareOp op) (P2 X.K g)) (ha : PE X a (tVar i)) (hb : PE X b (tD X.K xs wx fb)) (hm : behindInMarks op b = false := by first | exact nomark _ | rfl) : PE X (.Compare a [op] [b] pos) (tD X.K xs wx (binOL g i fb)) :=
  pe_imp (pe_cmpR ho ha hb hm) fun _ _ _ h => binOL_read h
theorem s_pop {i : Nat} {x : Str} {p1 p2 : Pos} (hN : X.N[i]? = some x) (hv : Vis X.env.scope x) (hd : (x == ("__debug__" : Str)) = false := by decide) (hcd : (x == ("__classdict__" : Str)) = false := by decide)
    (hline : (p1.endLine == pos.line) = true := by rfl) (hsw : swapsWith (.Call (.Attribute (.Name x p2) "pop" p1) [] [] pos) none pos.line X.env = Pure.pure false := by rfl) {pos2 : Pos} :
    PS X (.Expr (.Call (.Attribute (.Name x p2) "pop" p1) [] [] pos) pos2) (tDS X.K xs wx (sPop i)) := by
  refine ps_imp (ps_expr (pe_bm0 PySem.F.plainAttrs_list PySem.F.slot_list_pop PySem.F.type_list_pop mt_pop (pe_var (i := i) hN hv hd hcd) (by rfl) hline) hsw) fun D sg H h => ?_
  obtain ⟨F, io, st, env, fr, w⟩ := h
  unfold sPop at w
  split at w
  · rename_i us q
    split at w
    · rename_i hl
      obtain ⟨a, vs, e1, e2, r⟩ := fr.slot q
      have hlv : 0 < vs.length := by rw [← r.length]; exact hl
      obtain ⟨y, hy⟩ : ∃ y, vs[vs.length - 1]? = some y := ⟨_, List.getElem?_eq_getElem (by omega)⟩
      refine ⟨.ref a, e1, .inl ⟨rfl, vs, .inl (.inl e2)⟩, a, vs, y, rfl, rfl, e2, hy, ?_⟩
      have rr : Reps X.K (Wf (Gs F env sg) io) io H us.dropLast vs.dropLast := by
        rw [List.dropLast_eq_take, List.dropLast_eq_take, r.length]
        exact r.take _
      have y := fr.turnOwn q e1 rr
      exact w io _ _ y.1 y.2
    · exact w.elim
  · exact w.elim
theorem c_str : CallR X (.type "str") (PN X.K strN) := by
  intro pins s sg H vs us Q I r h
  obtain ⟨G, io, st, ws, u, ok, rs, e, q⟩ := h
  unfold strN at e
  split at e
  · split at e
    · rename_i hz
      cases e
      obtain ⟨v, rfl, rv⟩ := rs.one
      have e1 := rv.int'; subst e1
      exact call_str_int pins s sg H _ us Q I r ⟨_, rfl, hz, q _ H (Same.refl H) (rStr _)⟩
    · cases e
  · cases e
    obtain ⟨v, rfl, rv⟩ := rs.one
    have e1 := rv.str'; subst e1
    exact SkE.call_str_str pins s sg H _ us Q I r ⟨_, rfl, q _ H (Same.refl H) (rStr _)⟩
  · cases e
theorem spop (i : Nat) {x : Str} {p1 p2 : Pos} (hN : X.N[i]? = some x := by rfl) (hv : Vis X.env.scope x := by first | exact Or.inl rfl | exact Or.inr (Or.inl rfl) | exact Or.inr (Or.inr rfl)) (hd : (x == ("__debug__" : Str)) = false := by decide) (hcd : (x == ("__classdict__" : Str)) = false := by decide)
    (hline : (p1.endLine == pos.line) = true := by rfl) (hsw : swapsWith (.Call (.Attribute (.Name x p2) "pop" p1) [] [] pos) none pos.line X.env = Pure.pure false := by rfl) {pos2 : Pos} :
    PS X (.Expr (.Call (.Attribute (.Name x p2) "pop" p1) [] [] pos) pos2) (tDS X.K xs wx (sPop i)) := s_pop hN hv hd hcd hline hsw
end
@[simp] theorem joinD_ap (f g : DE) (env : Env) (st : Store) : joinD f g env st = (f env st).bind fun u st1 => match u with
  | .str a => (g env st1).bind fun v st2 => Rs.of (join2 a v) st2
  | _ => .bad := (rfl)
@[simp] theorem lenR_ap (f : DE) (env : Env) (st : Store) : lenR f env st = (f env st).bind fun u st1 => match u with
  | .ref n => match st1[n]? with
    | some (.lst us) => .ok (.int us.length) st1
    | _ => .bad
  | _ => .bad := (rfl)
@[simp] theorem catR_ap (f g : DE) (env : Env) (st : Store) : catR f g env st = (f env st).bind fun u st1 => (g env st1).bind fun v st2 => match u, v with
  | .ref n, .lst ws => match st2[n]? with
    | some (.lst us) => if us.length + ws.length ≤ sizeLine then .ok (us ++ ws) st2 else .bad
    | _ => .bad
  | _, _ => .bad := (rfl)
@[simp] theorem sExtR_ap (f g : DE) (env : Env) (st : Store) : sExtR f g env st = (f env st).out env fun u st1 => match u with
  | .ref n => match st1[n]? with
    | some (.lst _) => (g env st1).out env fun v st2 => match st2[n]?, seqU v with
      | some (.lst us), some ws => if us.length + ws.length ≤ sizeLine then .nx env (st2.set n (.lst (us ++ ws))) else .bad
      | _, _ => .bad
    | _ => .bad
  | _ => .bad := (rfl)
@[simp] theorem appO_ap (g : List U → Store → Rs U) (i : Nat) (env : Env) (st : Store) : appO g i env st = match ownL env[i]? with
  | some us => match g [.lst us] [] with
    | .ok u [] => if flatU u && noRefs us then .ok u st else .bad
    | _ => .bad
  | none => .bad := (rfl)
@[simp] theorem binOL_ap (g : U → U → Option U) (i : Nat) (fb : DE) (env : Env) (st : Store) : binOL g i fb env st = match ownL env[i]? with
  | some us => (fb env st).bind fun v st1 => Rs.of (flat1 (g (.lst us) v)) st1
  | none => .bad := (rfl)
@[simp] theorem sPop_ap (i : Nat) (env : Env) (st : Store) : sPop i env st = match env[i]? with
  | some (.own us) => if 0 < us.length then .nx (env.set i (.own us.dropLast)) st else .bad
  | _ => .bad := (rfl)
end D
namespace C
open PySem L2 D
/-! ### loops and comprehensions of which a part is known -/
theorem comp_ex {T : Type} {t : Tg} {e : DE} {env : D.Env} {st : Store} {f : T → U} {P : U → Prop} : ∀ (l : List T), (∀ x ∈ l, ∃ a, t (f x) = some a ∧ ∃ u, e (setE env a) st = .ok u st ∧ P u) → ∃ us, compL t yesT e (l.map f) env st = .ok us st ∧ us.length = l.length ∧ ∀ u ∈ us, P u
  | [], _ => ⟨[], rfl, rfl, fun _ h => nomatch h⟩
  | x :: l, h => by
    obtain ⟨a, h1, u, h2, h3⟩ := h x (List.mem_cons_self ..)
    obtain ⟨us, e1, e2, e3⟩ := comp_ex l fun y hy => h y (List.mem_cons_of_mem _ hy)
    refine ⟨u :: us, ?_, by simp [e2], fun v hv => ?_⟩
    · rw [List.map_cons, comp_cons, h1]
      simp [h2, e1]
    · rcases List.mem_cons.mp hv with q | q
      · subst q; exact h3
      · exact e3 v q
theorem for_first {T : Type} {t : Tg} {b : DS} {st : Store} {f : T → U} (I : D.Env → Prop) (c : T → Bool) (val : T → U) : ∀ (l : List T) (env : D.Env), I env → (∀ x ∈ l, ∀ env, I env → ∃ a, t (f x) = some a ∧ if c x = true then b (setE env a) st = .rt (val x) st else ∃ env', b (setE env a) st = .nx env' st ∧ I env') →
    (∃ x, l.find? c = some x ∧ forL t b (l.map f) env st = .rt (val x) st) ∨ (l.find? c = none ∧ ∃ env', forL t b (l.map f) env st = .nx env' st ∧ I env')
  | [], env, hI, _ => .inr ⟨rfl, env, rfl, hI⟩
  | x :: l, env, hI, h => by
    obtain ⟨a, h1, h2⟩ := h x (List.mem_cons_self ..) env hI
    by_cases q : c x = true
    · rw [if_pos q] at h2
      exact .inl ⟨x, List.find?_cons_of_pos q, by rw [List.map_cons, for_cons, h1]; simp [h2]⟩
    · rw [if_neg q] at h2
      obtain ⟨env', h3, h4⟩ := h2
      rcases for_first I c val l env' h4 fun y hy => h y (List.mem_cons_of_mem _ hy) with ⟨y, e1, e2⟩ | ⟨e1, env2, e2, e3⟩
      · exact .inl ⟨y, by rw [List.find?_cons_of_neg (by simpa using q)]; exact e1, by rw [List.map_cons, for_cons, h1]; simp [h3, e2]⟩
      · exact .inr ⟨by rw [List.find?_cons_of_neg (by simpa using q)]; exact e1, env2, by rw [List.map_cons, for_cons, h1]; simp [h3, e2], e3⟩
theorem pick {A : Type} (l : List A) (i : Int) (h0 : 0 ≤ i) (h1 : i < l.length) : ∃ x ∈ l, atI l i = some x := by
  obtain ⟨n, rfl⟩ := Int.eq_ofNat_of_zero_le h0
  have hn : n < l.length := by omega
  exact ⟨l[n], List.getElem_mem hn, by rw [atI_cast]; exact List.getElem?_eq_getElem hn⟩
theorem pick_mod {A : Type} (l : List A) (d : Int) (n : Int) (hn : (l.length : Int) = n) (h : 0 < n) : ∃ x ∈ l, atI l (d % n) = some x :=
  pick l _ (Int.emod_nonneg _ (by omega)) (by rw [hn]; exact Int.emod_lt_of_pos _ h)
/-! ### a law's own look at words and leaves -/
theorem words_of {us : List U} (h : us.all wordU = true) : ∃ ws : List Str, us = ws.map U.str ∧ ∀ w ∈ ws, isWordS w = true := by
  induction us with
  | nil => exact ⟨[], rfl, fun _ h => nomatch h⟩
  | cons u us ih =>
    rw [List.all_cons, Bool.and_eq_true] at h
    obtain ⟨x, rfl, hx⟩ := wordU_str h.1
    obtain ⟨ws, rfl, hw⟩ := ih h.2
    exact ⟨x :: ws, rfl, fun w hw' => by rcases List.mem_cons.mp hw' with q | q; (subst q; exact hx); exact hw w q⟩
def upS : List Str → Bool
  | x :: y :: l => ltC x y && upS (y :: l)
  | _ => true
theorem ltC_trans {x y z : Str} (h1 : ltC x y = true) (h2 : ltC y z = true) : ltC x z = true := by
  unfold ltC at *
  rw [decide_eq_true_eq] at *
  exact List.lt_trans h1 h2
theorem ltC_irrefl (x : Str) : ltC x x = false := by
  unfold ltC
  rw [decide_eq_false_iff_not]
  exact List.lt_irrefl _
theorem up_head : ∀ (l : List Str) (x : Str), upS (x :: l) = true → ∀ y ∈ l, ltC x y = true
  | [], _, _, _, h => nomatch h
  | y :: l, x, h, z, hz => by
    unfold upS at h
    rw [Bool.and_eq_true] at h
    rcases List.mem_cons.mp hz with q | q
    · subst q; exact h.1
    · exact ltC_trans h.1 (up_head l y h.2 z q)
theorem up_pw : ∀ (l : List Str), upS l = true → l.Pairwise fun x y => ltC x y = true
  | [], _ => .nil
  | x :: l, h => .cons (up_head l x h) (up_pw l (by
      cases l with
      | nil => rfl
      | cons y l => unfold upS at h; rw [Bool.and_eq_true] at h; exact h.2))
theorem pw_up : ∀ (l : List Str), (l.Pairwise fun x y => ltC x y = true) → upS l = true
  | [], _ => rfl
  | [_], _ => rfl
  | x :: y :: l, h => by
    unfold upS
    rw [Bool.and_eq_true]
    cases h with
    | cons h1 h2 => exact ⟨h1 y (List.mem_cons_self ..), pw_up (y :: l) h2⟩
theorem ded_id : ∀ {l : List Str}, l.Nodup → dedS l = l
  | [], _ => rfl
  | x :: l, h => by
    cases h with
    | cons h1 h2 =>
      unfold dedS plusS
      rw [ded_id h2, if_neg (fun z => h1 x z rfl)]
theorem up_iff (l : List Str) : upS l = decide (l = sortS (dedS l)) := by
  cases h : upS l with
  | true =>
    have hp := up_pw l h
    have nd : l.Nodup := hp.imp fun {a b} q e => by subst e; rw [ltC_irrefl] at q; cases q
    have le : l.Pairwise leS := hp.imp fun {a b} q => by
      rw [leS_iff]
      cases z : ltC b a with
      | false => rfl
      | true => have := ltC_trans q z; rw [ltC_irrefl] at this; cases this
    have e : l = sortS (dedS l) := by
      rw [ded_id nd]
      exact (sort_perm l).symm.eq_of_pairwise (fun a b _ _ h1 h2 => leS_anti h1 h2) le (sort_sorted l)
    exact (decide_eq_true e).symm
  | false =>
    symm
    rw [decide_eq_false_iff_not]
    intro e
    have h1 : l.Pairwise leS := by rw [e]; exact sort_sorted _
    have h2 : l.Nodup := by rw [e]; exact ((sort_perm _).nodup_iff).mpr (ded_nodup _)
    have h3 : l.Pairwise fun x y => ltC x y = true := by
      have := List.Pairwise.and h1 h2
      refine this.imp fun {a b} q => ?_
      cases z : ltC a b with
      | true => rfl
      | false => exact absurd (leS_anti q.1 ((leS_iff b a).mpr z)) q.2
    rw [pw_up l h3] at h
    cases h
theorem range_all_succ (n : Nat) (p : Nat → Bool) : (List.range (n + 1)).all p = (p 0 && (List.range n).all fun k => p (k + 1)) := by
  rw [List.range_succ_eq_map, List.all_cons, List.all_map]
  rfl
theorem getD_str (ws : List Str) (k : Nat) (h : k < ws.length) : (ws.map U.str).getD k .non = .str ws[k] := by
  rw [List.getD_eq_getElem?_getD, List.getElem?_map, List.getElem?_eq_getElem h]; rfl
theorem areL_txt (ws : List Str) (h : ∀ w ∈ ws, isWordS w = true) : areL (tS ws) = (decide (ws.length ≤ 8) && decide (ws = sortS (dedS ws))) := by
  rw [← up_iff]
  unfold areL
  simp only [List.length_map]
  congr 1
  have key : ∀ (l : List Str) (x : Str), ((List.range l.length).all fun k => ltC ((x :: l).getD k Str.empty) (l.getD k Str.empty)) = upS (x :: l) := by
    intro l
    induction l with
    | nil => intro x; rfl
    | cons y l ih =>
      intro x
      rw [List.length_cons, range_all_succ]
      show (ltC x y && _) = (ltC x y && upS (y :: l))
      rw [← ih y]
      rfl
  cases ws with
  | nil => rfl
  | cons x l =>
    rw [List.length_cons, range_all_succ]
    have h0 : leafAt ((x :: l).map U.str) 0 = true := by
      unfold leafAt
      simp [wordU, h x (List.mem_cons_self ..)]
    rw [h0, Bool.true_and, ← key l x, Bool.eq_iff_iff, List.all_eq_true, List.all_eq_true]
    have each : ∀ k ∈ List.range l.length, leafAt ((x :: l).map U.str) (k + 1) = ltC ((x :: l).getD k Str.empty) (l.getD k Str.empty) := by
      intro k hk
      have hk := List.mem_range.mp hk
      unfold leafAt
      rw [getD_str (x :: l) (k + 1) (by simp; omega), Nat.add_sub_cancel, getD_str (x :: l) k (by simp; omega)]
      have e1 : (x :: l)[k + 1]'(by simp; omega) = l[k] := rfl
      have e2 : (x :: l).getD k Str.empty = (x :: l)[k]'(by simp; omega) := by
        rw [List.getD_eq_getElem?_getD, List.getElem?_eq_getElem (by simp; omega)]; rfl
      have e3 : l.getD k Str.empty = l[k] := by
        rw [List.getD_eq_getElem?_getD, List.getElem?_eq_getElem hk]; rfl
      rw [e1, e2, e3]
      simp [wordU, ltU, h _ (List.mem_cons_of_mem _ (List.getElem_mem hk))]
    exact ⟨fun q k hk => by rw [← each k hk]; exact q k hk, fun q k hk => by rw [each k hk]; exact q k hk⟩
end C
namespace C
open PySem L2 D
/-! ### rows that are rows -/
inductive Row where
  | set (x : Str) (n : Int) | same (x a : Str) | sum (x a b : Str) | less (x a b : Str) | hold (x n : Str) (as : List Str) | call (x f : Str) (as vs : List Str) | last (f : Str) (as vs : List Str) | give (a : Str)
  | keep (c a : Str) | kept (x c : Str) | skip (a : Str) (k : Int) | over (k : Int) | on | count | ask (w : Str) (k : Int) | deed (w a : Str) | done (w a : Str)
  deriving DecidableEq
def Row.u : Row → U
  | .set x n => .tup [.str (Str.ofString "set"), .str x, .int n]
  | .same x a => .tup [.str (Str.ofString "same"), .str x, .str a]
  | .sum x a b => .tup [.str (Str.ofString "sum"), .str x, .str a, .str b]
  | .less x a b => .tup [.str (Str.ofString "less"), .str x, .str a, .str b]
  | .hold x n as => .tup [.str (Str.ofString "hold"), .str x, .str n, tS as]
  | .call x f as vs => .tup [.str (Str.ofString "call"), .str x, .str f, tS as, tS vs]
  | .last f as vs => .tup [.str (Str.ofString "last"), .str f, tS as, tS vs]
  | .give a => .tup [.str (Str.ofString "give"), .str a]
  | .keep c a => .tup [.str (Str.ofString "keep"), .str c, .str a]
  | .kept x c => .tup [.str (Str.ofString "kept"), .str x, .str c]
  | .skip a k => .tup [.str (Str.ofString "skip"), .str a, .int k]
  | .over k => .tup [.str (Str.ofString "over"), .int k]
  | .on => .tup [.str (Str.ofString "on")]
  | .count => .tup [.str (Str.ofString "count")]
  | .ask w k => .tup [.str (Str.ofString "ask"), .str w, .int k]
  | .deed w a => .tup [.str (Str.ofString "deed"), .str w, .str a]
  | .done w a => .tup [.str (Str.ofString "done"), .str w, .str a]
def okN (n : Int) : Bool := decide (-1000000000000000000 ≤ n ∧ n ≤ 1000000000000000000)
def argsS (as : List Str) : Bool := decide (as.length ≤ 4) && as.all isWordS
def leavesS (ws : List Str) : Bool := areL (tS ws)
def Row.ok : Row → Bool
  | .set x n => isWordS x && okN n
  | .same x a => isWordS x && isWordS a
  | .sum x a b => isWordS x && isWordS a && isWordS b
  | .less x a b => isWordS x && isWordS a && isWordS b
  | .hold x n as => isWordS x && isWordS n && argsS as
  | .call x f as vs => isWordS x && isWordS f && argsS as && leavesS vs
  | .last f as vs => isWordS f && argsS as && leavesS vs
  | .give a => isWordS a
  | .keep c a => isWordS c && isWordS a
  | .kept x c => isWordS x && isWordS c
  | .skip a k => isWordS a && decide (0 < k)
  | .over k => decide (0 < k)
  | .on => true
  | .count => true
  | .ask w k => isWordS w && decide (0 < k)
  | .deed w a => isWordS w && isWordS a
  | .done w a => isWordS w && isWordS a
def Row.goes : Row → Int
  | .skip _ k => k
  | .over k => k
  | .ask _ k => k
  | _ => 0
def Row.leaves : Row → List Str
  | .call _ _ _ vs => vs
  | .last _ _ vs => vs
  | .ask w _ => [w]
  | .deed w _ => [w]
  | .done w _ => [w]
  | _ => []
theorem args_typed {u : U} (h : argsU u = true) : ∃ as, u = tS as ∧ argsS as = true := by
  cases u with
  | tup us =>
    have h : (decide (us.length ≤ 4) && us.all wordU) = true := h
    rw [Bool.and_eq_true] at h
    obtain ⟨ws, rfl, hw⟩ := words_of h.2
    refine ⟨ws, rfl, ?_⟩
    unfold argsS
    rw [Bool.and_eq_true, List.all_eq_true]
    exact ⟨by simpa using h.1, hw⟩
  | _ => cases h
theorem leaves_typed {u : U} (h : areL u = true) : ∃ ws, u = tS ws ∧ leavesS ws = true := by
  cases u with
  | tup us =>
    have h' : (decide (us.length ≤ 8) && (List.range us.length).all (leafAt us)) = true := h
    rw [Bool.and_eq_true, List.all_eq_true] at h'
    have : us.all wordU = true := by
      rw [List.all_eq_true]
      intro u hu
      obtain ⟨i, hi, rfl⟩ := List.getElem_of_mem hu
      have := h'.2 i (List.mem_range.mpr hi)
      unfold leafAt at this
      rw [getD_of (List.getElem?_eq_getElem hi), Bool.and_eq_true] at this
      exact this.1
    obtain ⟨ws, rfl, hw⟩ := words_of this
    exact ⟨ws, rfl, h⟩
  | _ => cases h
theorem numb_typed {u : U} (h : numbU u = true) : ∃ n, u = .int n ∧ okN n = true := by
  cases u with
  | int n => exact ⟨n, rfl, h⟩
  | _ => cases h
theorem over_typed {u : U} (h : overU u = true) : ∃ n, u = .int n ∧ decide (0 < n) = true := by
  cases u with
  | int n => exact ⟨n, rfl, h⟩
  | _ => cases h
theorem look_mem {w : Str} {ss : List Str} (h : lookS w = some ss) : (w, ss) ∈ tabS := by
  unfold lookS at h
  rw [Option.map_eq_some_iff] at h
  obtain ⟨p, h1, rfl⟩ := h
  have h2 := List.find?_some h1
  have h3 : p.1 = w := by simpa using h2
  rw [← h3]
  exact List.mem_of_find?_eq_some h1
theorem row_typed {u : U} (h : rowU u = true) : ∃ r : Row, u = r.u ∧ r.ok = true := by
  cases u with
  | tup us =>
    cases us with
    | nil => cases h
    | cons x ps =>
      cases x with
      | str w =>
        have h : (match lookS w with
          | some ss => decide (ps.length = ss.length) && (List.zipWith partU ss ps).all id
          | none => false) = true := h
        cases hl : lookS w with
        | none => rw [hl] at h; cases h
        | some ss =>
          rw [hl] at h
          simp only [Bool.and_eq_true, decide_eq_true_eq] at h
          obtain ⟨hlen, hp⟩ := h
          have hm := look_mem hl
          simp only [tabS, List.mem_cons, Prod.mk.injEq, List.not_mem_nil, or_false] at hm
          rcases hm with ⟨rfl, rfl⟩ | ⟨rfl, rfl⟩ | ⟨rfl, rfl⟩ | ⟨rfl, rfl⟩ | ⟨rfl, rfl⟩ | ⟨rfl, rfl⟩ | ⟨rfl, rfl⟩ | ⟨rfl, rfl⟩ | ⟨rfl, rfl⟩ | ⟨rfl, rfl⟩ | ⟨rfl, rfl⟩ | ⟨rfl, rfl⟩ | ⟨rfl, rfl⟩ | ⟨rfl, rfl⟩ | ⟨rfl, rfl⟩ | ⟨rfl, rfl⟩ | ⟨rfl, rfl⟩
          · match ps, hlen with
            | [a, b], _ =>
              simp [partU] at hp
              obtain ⟨x, rfl, hx⟩ := wordU_str hp.1; obtain ⟨n, rfl, hn⟩ := numb_typed hp.2
              exact ⟨.set x n, rfl, by simp [Row.ok, hx, hn]⟩
          · match ps, hlen with
            | [a, b], _ =>
              simp [partU] at hp
              obtain ⟨x, rfl, hx⟩ := wordU_str hp.1; obtain ⟨n, rfl, hn⟩ := wordU_str hp.2
              exact ⟨.same x n, rfl, by simp [Row.ok, hx, hn]⟩
          · match ps, hlen with
            | [a, b, c], _ =>
              simp [partU] at hp
              obtain ⟨x, rfl, hx⟩ := wordU_str hp.1; obtain ⟨n, rfl, hn⟩ := wordU_str hp.2.1; obtain ⟨m, rfl, hm⟩ := wordU_str hp.2.2
              exact ⟨.sum x n m, rfl, by simp [Row.ok, hx, hn, hm]⟩
          · match ps, hlen with
            | [a, b, c], _ =>
              simp [partU] at hp
              obtain ⟨x, rfl, hx⟩ := wordU_str hp.1; obtain ⟨n, rfl, hn⟩ := wordU_str hp.2.1; obtain ⟨m, rfl, hm⟩ := wordU_str hp.2.2
              exact ⟨.less x n m, rfl, by simp [Row.ok, hx, hn, hm]⟩
          · match ps, hlen with
            | [a, b, c], _ =>
              simp [partU] at hp
              obtain ⟨x, rfl, hx⟩ := wordU_str hp.1; obtain ⟨n, rfl, hn⟩ := wordU_str hp.2.1; obtain ⟨m, rfl, hm⟩ := args_typed hp.2.2
              exact ⟨.hold x n m, rfl, by simp [Row.ok, hx, hn, hm]⟩
          · match ps, hlen with
            | [a, b, c, d], _ =>
              simp [partU] at hp
              obtain ⟨x, rfl, hx⟩ := wordU_str hp.1; obtain ⟨n, rfl, hn⟩ := wordU_str hp.2.1; obtain ⟨m, rfl, hm⟩ := args_typed hp.2.2.1; obtain ⟨v, rfl, hv⟩ := leaves_typed hp.2.2.2
              exact ⟨.call x n m v, rfl, by simp [Row.ok, hx, hn, hm, hv]⟩
          · match ps, hlen with
            | [b, c, d], _ =>
              simp [partU] at hp
              obtain ⟨n, rfl, hn⟩ := wordU_str hp.1; obtain ⟨m, rfl, hm⟩ := args_typed hp.2.1; obtain ⟨v, rfl, hv⟩ := leaves_typed hp.2.2
              exact ⟨.last n m v, rfl, by simp [Row.ok, hn, hm, hv]⟩
          · match ps, hlen with
            | [a], _ =>
              simp [partU] at hp
              obtain ⟨x, rfl, hx⟩ := wordU_str hp
              exact ⟨.give x, rfl, by simp [Row.ok, hx]⟩
          · match ps, hlen with
            | [a, b], _ =>
              simp [partU] at hp
              obtain ⟨x, rfl, hx⟩ := wordU_str hp.1; obtain ⟨n, rfl, hn⟩ := wordU_str hp.2
              exact ⟨.keep x n, rfl, by simp [Row.ok, hx, hn]⟩
          · match ps, hlen with
            | [a, b], _ =>
              simp [partU] at hp
              obtain ⟨x, rfl, hx⟩ := wordU_str hp.1; obtain ⟨n, rfl, hn⟩ := wordU_str hp.2
              exact ⟨.kept x n, rfl, by simp [Row.ok, hx, hn]⟩
          · match ps, hlen with
            | [a, b], _ =>
              simp [partU] at hp
              obtain ⟨x, rfl, hx⟩ := wordU_str hp.1; obtain ⟨n, rfl, hn⟩ := over_typed hp.2
              exact ⟨.skip x n, rfl, by simp only [Row.ok, hx, hn, Bool.and_self]⟩
          · match ps, hlen with
            | [b], _ =>
              simp [partU] at hp
              obtain ⟨n, rfl, hn⟩ := over_typed hp
              exact ⟨.over n, rfl, by simp only [Row.ok, hn]⟩
          · match ps, hlen with
            | [], _ => exact ⟨.on, rfl, rfl⟩
          · match ps, hlen with
            | [], _ => exact ⟨.count, rfl, rfl⟩
          · match ps, hlen with
            | [a, b], _ =>
              simp [partU] at hp
              obtain ⟨x, rfl, hx⟩ := wordU_str hp.1; obtain ⟨n, rfl, hn⟩ := over_typed hp.2
              exact ⟨.ask x n, rfl, by simp only [Row.ok, hx, hn, Bool.and_self]⟩
          · match ps, hlen with
            | [a, b], _ =>
              simp [partU] at hp
              obtain ⟨x, rfl, hx⟩ := wordU_str hp.1; obtain ⟨n, rfl, hn⟩ := wordU_str hp.2
              exact ⟨.deed x n, rfl, by simp [Row.ok, hx, hn]⟩
          · match ps, hlen with
            | [a, b], _ =>
              simp [partU] at hp
              obtain ⟨x, rfl, hx⟩ := wordU_str hp.1; obtain ⟨n, rfl, hn⟩ := wordU_str hp.2
              exact ⟨.done x n, rfl, by simp [Row.ok, hx, hn]⟩
      | _ => cases h
  | _ => cases h
theorem argsU_txt (as : List Str) : argsU (tS as) = argsS as := by
  unfold argsU argsS
  simp only [List.length_map]
  congr 1
  rw [List.all_map]
  rfl
theorem row_back (r : Row) : rowU r.u = r.ok := by
  have lk : ∀ p ∈ tabS, lookS p.1 = some p.2 := by decide +kernel
  have a1 : ∀ as, argsU (.tup (as.map U.str)) = argsS as := argsU_txt
  have a2 : ∀ as, areL (.tup (as.map U.str)) = leavesS as := fun _ => rfl
  cases r with
  | set x n => simp [Row.u, rowU, lk (Str.ofString "set", [wWord, wNumber]) (by simp [tabS]), partU, wordU, Row.ok, numbU, okN]
  | same x a => simp [Row.u, rowU, lk (Str.ofString "same", [wWord, wWord]) (by simp [tabS]), partU, wordU, Row.ok]
  | sum x a b => simp [Row.u, rowU, lk (Str.ofString "sum", [wWord, wWord, wWord]) (by simp [tabS]), partU, wordU, Row.ok, Bool.and_assoc]
  | less x a b => simp [Row.u, rowU, lk (Str.ofString "less", [wWord, wWord, wWord]) (by simp [tabS]), partU, wordU, Row.ok, Bool.and_assoc]
  | hold x n as => simp [Row.u, rowU, lk (Str.ofString "hold", [wWord, wWord, wArgs]) (by simp [tabS]), partU, wordU, Row.ok, a1, Bool.and_assoc]
  | call x f as vs => simp [Row.u, rowU, lk (Str.ofString "call", [wWord, wWord, wArgs, wLeaves]) (by simp [tabS]), partU, wordU, Row.ok, a1, a2, Bool.and_assoc]
  | last f as vs => simp [Row.u, rowU, lk (Str.ofString "last", [wWord, wArgs, wLeaves]) (by simp [tabS]), partU, wordU, Row.ok, a1, a2, Bool.and_assoc]
  | give a => simp [Row.u, rowU, lk (Str.ofString "give", [wWord]) (by simp [tabS]), partU, wordU, Row.ok]
  | keep c a => simp [Row.u, rowU, lk (Str.ofString "keep", [wWord, wWord]) (by simp [tabS]), partU, wordU, Row.ok]
  | kept x c => simp [Row.u, rowU, lk (Str.ofString "kept", [wWord, wWord]) (by simp [tabS]), partU, wordU, Row.ok]
  | skip a k => simp [Row.u, rowU, lk (Str.ofString "skip", [wWord, Str.ofString "over"]) (by simp [tabS]), partU, wordU, Row.ok, overU]
  | over k => simp [Row.u, rowU, lk (Str.ofString "over", [Str.ofString "over"]) (by simp [tabS]), partU, wordU, Row.ok, overU]
  | on => simp [Row.u, rowU, lk (Str.ofString "on", []) (by simp [tabS]), Row.ok]
  | count => simp [Row.u, rowU, lk (Str.ofString "count", []) (by simp [tabS]), Row.ok]
  | ask w k => simp [Row.u, rowU, lk (Str.ofString "ask", [wWord, Str.ofString "over"]) (by simp [tabS]), partU, wordU, Row.ok, overU]
  | deed w a => simp [Row.u, rowU, lk (Str.ofString "deed", [wWord, wWord]) (by simp [tabS]), partU, wordU, Row.ok]
  | done w a => simp [Row.u, rowU, lk (Str.ofString "done", [wWord, wWord]) (by simp [tabS]), partU, wordU, Row.ok]
end C
namespace C
open PySem L2 D
def b_goes_over : DS := (sSeq (sIf (tst (bin in2 (bin ix2 (var 0) (cst (.int 0))) (appN szT (acons (cst (.str (Str.ofString "skip"))) (acons (cst (.str (Str.ofString "over"))) (acons (cst (.str (Str.ofString "ask"))) anil)))))) (sSeq (sRet (bin ix2 (var 0) (neg1D (cst (.int 1))))) sNil) sNil) (sSeq (sRet (cst (.int 0))) sNil))
def f_goes_over : List U → Store → Rs U := runB 1 1 b_goes_over
def t1_bad_row : DS := (sSeq (sIf (orT (notT (tst (appU f_is_row (acons (var 2) anil)))) (tst (bin gt2 (bin add2 (bin add2 (var 1) (cst (.int 1))) (appU f_goes_over (acons (var 2) anil))) (appN lenN (acons (var 0) anil))))) (sSeq (sRet (var 1)) sNil) sNil) sNil)
def b_bad_row : DS := (sSeq (sFor (itA enumerateN (acons (var 0) anil)) (tgT [1, 2]) t1_bad_row) (sSeq (sRet (cst .non)) sNil))
def f_bad_row : List U → Store → Rs U := runB 3 1 b_bad_row
def b_is_head : DS := (sSeq (sIf (orT (notT (tst (appN isiN (acons (var 0) (acons (cst (.ty "tuple")) anil))))) (tst (bin ne2 (appN lenN (acons (var 0) anil)) (cst (.int 4))))) (sSeq (sRet (cst (.bl false))) sNil) sNil) (sSeq (sUnp (tgA [1, 2, 3, 4]) (var 0)) (sSeq (sIf (orT (notT (tst (appU f_is_word (acons (var 1) anil)))) (orT (notT (tst (appU f_are_leaves (acons (var 2) anil)))) (orT (notT (tst (appU f_are_args (acons (var 3) anil)))) (tst (bin ne2 (ap1 lenSet1 (var 3)) (appN lenN (acons (var 3) anil))))))) (sSeq (sRet (cst (.bl false))) sNil) sNil) (sSeq (sRet (andV (appN isiN (acons (var 4) (acons (cst (.ty "tuple")) anil))) (chain le2 le2 (cst (.int 1)) (appN lenN (acons (var 4) anil)) (cst (.int 60))))) sNil))))
def f_is_head : List U → Store → Rs U := runB 5 1 b_is_head
def b_leaves_in : DS := (sSeq (sIf (tst (bin in2 (bin ix2 (var 0) (cst (.int 0))) (appN szT (acons (cst (.str (Str.ofString "call"))) (acons (cst (.str (Str.ofString "last"))) anil))))) (sSeq (sRet (bin ix2 (var 0) (neg1D (cst (.int 1))))) sNil) sNil) (sSeq (sIf (tst (bin in2 (bin ix2 (var 0) (cst (.int 0))) (appN szT (acons (cst (.str (Str.ofString "ask"))) (acons (cst (.str (Str.ofString "deed"))) (acons (cst (.str (Str.ofString "done"))) anil)))))) (sSeq (sRet (appN szT (acons (bin ix2 (var 0) (cst (.int 1))) anil))) sNil) sNil) (sSeq (sRet (appN szT anil)) sNil)))
def f_leaves_in : List U → Store → Rs U := runB 1 1 b_leaves_in
def t1_words_of : DS := (sSeq (sExt 1 (appU f_leaves_in (acons (var 2) anil))) sNil)
def b_words_of : DS := (sSeq (sOwn 1 (itA lstL (acons (bin ix2 (var 0) (cst (.int 1))) anil))) (sSeq (sFor (itemsD (bin ix2 (var 0) (cst (.int 3)))) (tgN 2) t1_words_of) (sSeq (frzS 1 (sRet (var 1))) sNil)))
def f_words_of : List U → Store → Rs U := runB 3 1 b_words_of
def t1_roster_in : DS := (sSeq (sExt 1 (appU f_words_of (acons (var 2) anil))) sNil)
def b_roster_in : DS := (sSeq (sOwn 1 (szDL anil)) (sSeq (sFor (itemsD (var 0)) (tgN 2) t1_roster_in) (sSeq (frzS 1 (sRet (appN tupN (acons (newL (itE sortSet1 (var 1))) anil)))) sNil)))
def f_roster_in : List U → Store → Rs U := runB 3 1 b_roster_in
def t1_look_at_book (R : DA → DS) : DS := (sSeq (sIf (orT (notT (tst (appU f_is_head (acons (var 2) anil)))) (tst (bin in2 (bin ix2 (var 2) (cst (.int 0))) (newL (compD (itemsD (slD (var 0) noO (soO (var 1)))) [4] (tgN 4) yesT (bin ix2 (var 4) (cst (.int 0)))))))) (sSeq (R (acons (var 1) (acons (cst .non) anil))) sNil) sNil) (sSeq (sSet 3 (appU f_bad_row (acons (bin ix2 (var 2) (cst (.int 3))) anil))) (sSeq (sIf (tst (bin isnot2 (var 3) (cst .non))) (sSeq (R (acons (var 1) (acons (var 3) anil))) sNil) sNil) sNil)))
def b_look_at_book (R : DA → DS) : DS := (sSeq (sIf (orT (notT (tst (appN isiN (acons (var 0) (acons (cst (.ty "list")) anil))))) (notT (tst (chain le2 le2 (cst (.int 1)) (appN lenN (acons (var 0) anil)) (cst (.int 12)))))) (sSeq (R (acons (cst .non) (acons (cst .non) anil))) sNil) sNil) (sSeq (sFor (itA enumerateN (acons (var 0) anil)) (tgT [1, 2]) (t1_look_at_book R)) (sSeq (sIf (tst (bin gt2 (appN lenN (acons (appU f_roster_in (acons (var 0) anil)) anil)) (cst (.int 8)))) (sSeq (R (acons (cst .non) (acons (cst .non) anil))) sNil) sNil) sNil)))
def f_look_at_book (R : DA → DS) : List U → Store → Rs U := runB 5 1 (b_look_at_book R)
/-! ### what a row goes over, its leaves -/
theorem in_txtL (x : Str) (ws : List Str) : in2 (.str x) (lS ws) = some (.bl (decide (x ∈ ws))) := by
  show (if flatU (.str x) && (ws.map U.str).all flatU then some (U.bl ((ws.map U.str).any fun y => eqU y (.str x))) else _) = _
  rw [flat_txt, any_txt]; rfl
theorem in3 (x a b c : Str) : in2 (.str x) (.tup [.str a, .str b, .str c]) = some (.bl (decide (x = a ∨ x = b ∨ x = c))) := by
  rw [show U.tup [.str a, .str b, .str c] = tS [a, b, c] from rfl, in_txt]; simp
theorem in2' (x a b : Str) : in2 (.str x) (.tup [.str a, .str b]) = some (.bl (decide (x = a ∨ x = b))) := by
  rw [show U.tup [.str a, .str b] = tS [a, b] from rfl, in_txt]; simp
theorem goes_ev (r : Row) (st : Store) : f_goes_over [r.u] st = .ok (.int r.goes) st := by
  unfold f_goes_over b_goes_over
  cases r <;> simp [Row.u, Row.goes, in3]
theorem leaves_in_ev (r : Row) (st : Store) : f_leaves_in [r.u] st = .ok (tS r.leaves) st := by
  unfold f_leaves_in b_leaves_in
  cases r <;> simp [Row.u, Row.leaves, in3, in2']
/-- what a row goes over; of what is none, nothing -/
noncomputable def goesU (u : U) : Int := open Classical in if h : ∃ r : Row, u = r.u then (Classical.choose h).goes else 0
theorem Row.u_inj {r r' : Row} (h : r.u = r'.u) : r.goes = r'.goes := by
  have h1 := goes_ev r []
  have h2 := goes_ev r' []
  rw [h, h2] at h1
  simpa using h1.symm
theorem goesU_row (r : Row) : goesU r.u = r.goes := by
  unfold goesU
  have h : ∃ r' : Row, r.u = r'.u := ⟨r, rfl⟩
  rw [dif_pos h]
  exact (Row.u_inj (Classical.choose_spec h)).symm
theorem goesU_ev {u : U} (h : rowU u = true) (st : Store) : f_goes_over [u] st = .ok (.int (goesU u)) st := by
  obtain ⟨r, rfl, _⟩ := row_typed h
  rw [goesU_row, goes_ev]
/-- whether a row can stand at a place -/
noncomputable def stands (us : List U) (k : Nat) : Bool := rowU (us.getD k .non) && decide ((k : Int) + 1 + goesU (us.getD k .non) ≤ us.length)
noncomputable def badAt (us : List U) : Option Nat := (List.range us.length).find? fun k => !stands us k
def optU : Option Nat → U
  | some n => .int n
  | none => .non
theorem for_num {b : DS} {st : Store} {us : List U} (I : D.Env → Prop) (i j : Nat) (c : Nat → Bool) (val : Nat → U) (env : D.Env) (h0 : I env)
    (h : ∀ k u, us[k]? = some u → ∀ env, I env → if c k = true then b ((env.set i (.val (.int (k : Int)))).set j (.val u)) st = .rt (val k) st else ∃ env', b ((env.set i (.val (.int (k : Int)))).set j (.val u)) st = .nx env' st ∧ I env') :
    (∃ k, (List.range us.length).find? c = some k ∧ forL (tgT [i, j]) b (numU us) env st = .rt (val k) st) ∨ ((List.range us.length).find? c = none ∧ ∃ env', forL (tgT [i, j]) b (numU us) env st = .nx env' st ∧ I env') := by
  have e : numU us = (List.range us.length).map fun k => U.tup [.int (k : Nat), us.getD k .non] := by
    apply List.ext_getElem?
    intro k
    unfold numU
    rw [List.getElem?_mapIdx, List.getElem?_map]
    by_cases hk : k < us.length
    · rw [List.getElem?_range hk, List.getElem?_eq_getElem hk]
      simp [List.getD_eq_getElem?_getD, List.getElem?_eq_getElem hk]
    · rw [List.getElem?_eq_none (by omega), List.getElem?_eq_none (by simp; omega)]
      rfl
  rw [e]
  refine for_first I c val (List.range us.length) env h0 fun k hk env hI => ⟨_, tgT2_ap _ _ _ _, ?_⟩
  have hk := List.mem_range.mp hk
  have hg : us[k]? = some (us.getD k .non) := by rw [List.getD_eq_getElem?_getD, List.getElem?_eq_getElem hk]; rfl
  exact h k _ hg env hI
theorem bad_row_gen (us : List U) (T : U) (hT : T = .tup us ∨ T = .lst us) (h : us.all tame2 = true) (st : Store) : f_bad_row [T] st = .ok (optU (badAt us)) st := by
  have en : enumerateN [T] = some (numU us) := by rcases hT with rfl | rfl <;> rfl
  have ln : lenN [T] = some (.int us.length) := by rcases hT with rfl | rfl <;> rfl
  rw [List.all_eq_true] at h
  have loop := for_num (b := t1_bad_row) (st := st) (us := us) (fun env => ∃ s1 s2, env = [.val T, s1, s2]) 1 2 (fun k => !stands us k) (fun k => .int (k : Nat)) [.val T, .un, .un] ⟨_, _, rfl⟩ (fun k u hk env hI => by
    obtain ⟨s1, s2, rfl⟩ := hI
    have ed := getD_of hk
    have e1 : f_is_row [u] st = .ok (.bl (rowU u)) st := is_row_ev (h u (List.mem_of_getElem? hk)) st
    unfold t1_bad_row stands
    rw [ed]
    cases hr : rowU u with
    | false => simp [e1, hr]
    | true =>
      have e2 := goesU_ev hr st
      by_cases q : (k : Int) + 1 + goesU u ≤ us.length
      · have q' : ¬ (us.length : Int) < (k : Int) + 1 + goesU u := by omega
        simp [e1, hr, e2, ln, q, q']
      · have q' : (us.length : Int) < (k : Int) + 1 + goesU u := by omega
        simp [e1, hr, e2, ln, q, q'])
  unfold f_bad_row b_bad_row badAt
  rcases loop with ⟨k, h1, h2⟩ | ⟨h1, env', h2, s1, s2, rfl⟩
  · simp [en, h2, h1, optU]
  · simp [en, h2, h1, optU]
/-! ### heads -/
def tame3 : U → Bool
  | .tup us => us.all tame2
  | u => tame u
def tame4 : U → Bool
  | .tup us => us.all tame3
  | u => tame u
theorem tame2_1 {u : U} (h : tame2 u = true) : tame1 u = true := by
  cases u with
  | tup us =>
    have h : us.all tame1 = true := h
    show us.all tame = true
    rw [List.all_eq_true] at h ⊢
    exact fun u hu => tame1_tame (h u hu)
  | _ => exact h
theorem tame3_2 {u : U} (h : tame3 u = true) : tame2 u = true := by
  cases u with
  | tup us =>
    have h : us.all tame2 = true := h
    show us.all tame1 = true
    rw [List.all_eq_true] at h ⊢
    exact fun u hu => tame2_1 (h u hu)
  | _ => exact h
theorem tame4_3 {u : U} (h : tame4 u = true) : tame3 u = true := by
  cases u with
  | tup us =>
    have h : us.all tame3 = true := h
    show us.all tame2 = true
    rw [List.all_eq_true] at h ⊢
    exact fun u hu => tame3_2 (h u hu)
  | _ => exact h
def nodupU : U → Bool
  | .tup us => match strsU us with
    | some ws => decide ((dedS ws).length = ws.length)
    | none => false
  | _ => false
def rowsU : U → Bool
  | .tup us => decide (1 ≤ us.length ∧ us.length ≤ 60)
  | _ => false
def headU : U → Bool
  | .tup [n, o, p, r] => wordU n && areL o && argsU p && nodupU p && rowsU r
  | _ => false
theorem is_head_ev {u : U} (h : tame3 u = true) (st : Store) : f_is_head [u] st = .ok (.bl (headU u)) st := by
  unfold f_is_head b_is_head
  cases u with
  | tup us =>
    have h : us.all tame2 = true := h
    rw [List.all_eq_true] at h
    by_cases hl : us.length = 4
    · match us, hl with
      | [n, o, p, r], _ =>
        have hn := tame2_1 (h n (by simp))
        have ho := tame2_1 (h o (by simp))
        have hp := tame2_1 (h p (by simp))
        have hr := tame2_1 (h r (by simp))
        obtain ⟨t, ht⟩ := tame1_ty hr
        have e1 := is_word_any (tame1_tame hn) st
        have e2 := are_leaves_ev ho st
        have e3 := are_args_ev hp st
        have tg4 : tgA [1, 2, 3, 4] (.tup [n, o, p, r]) = some [(1, n), (2, o), (3, p), (4, r)] := rfl
        have hh : headU (.tup [n, o, p, r]) = (wordU n && areL o && argsU p && nodupU p && rowsU r) := rfl
        rw [hh]
        cases q1 : wordU n with
        | false => simp [sUnp, tg4, e1, q1]
        | true =>
        cases q2 : areL o with
        | false => simp [sUnp, tg4, e1, q1, e2, q2]
        | true =>
        cases q3 : argsU p with
        | false => simp [sUnp, tg4, e1, q1, e2, q2, e3, q3]
        | true =>
        obtain ⟨as, rfl, has⟩ := args_typed q3
        have la : as.length ≤ 4 := by unfold argsS at has; rw [Bool.and_eq_true] at has; simpa using has.1
        have ls : lenSet1 (tS as) = some (.int (dedS as).length) := by
          unfold lenSet1
          rw [txts_txt]
          show (if _ then _ else _) = _
          rw [if_pos (by omega)]
        have nd : nodupU (tS as) = decide ((dedS as).length = as.length) := by
          show (match strsU (as.map U.str) with | some ws => _ | none => _) = _
          rw [strs_map]
        have eqi : (((dedS as).length : Int) = as.length) ↔ (dedS as).length = as.length := by omega
        by_cases q4 : (dedS as).length = as.length
        · have nd' : nodupU (tS as) = true := by rw [nd]; simpa using q4
          simp only [tS] at ls nd' e3 tg4 q3
          cases r with
          | tup rs =>
            have b1 : ((1 : Int) ≤ rs.length) ↔ 1 ≤ rs.length := by omega
            have b2 : ((rs.length : Int) ≤ 60) ↔ rs.length ≤ 60 := by omega
            by_cases c1 : 1 ≤ rs.length
            · simp [sUnp, tg4, e1, q1, e2, q2, e3, q3, ls, q4, nd', rowsU, b1, b2, c1]
            · simp [sUnp, tg4, e1, q1, e2, q2, e3, q3, ls, q4, nd', rowsU, b1, b2, c1]
          | ref n => cases ht
          | ty n => cases ht
          | _ => simp [sUnp, tg4, e1, q1, e2, q2, e3, q3, ls, q4, nd', rowsU]
        · have nd' : nodupU (tS as) = false := by rw [nd]; simpa using q4
          simp only [tS] at ls nd' e3 tg4 q3
          simp [sUnp, tg4, e1, q1, e2, q2, e3, q3, ls, eqi, q4, nd']
    · have hl' : ¬ ((us.length : Int) = 4) := by omega
      have hh : headU (.tup us) = false := by
        unfold headU
        split
        · rename_i e; cases e; exact absurd rfl hl
        · rfl
      simp [hl', hh]
  | ref n => cases h
  | ty n => cases h
  | _ => simp [headU]
/-! ### pieces, books -/
structure Piece where
  name : Str
  own : List Str
  params : List Str
  rows : List Row
def Piece.u (p : Piece) : U := .tup [.str p.name, tS p.own, tS p.params, .tup (p.rows.map Row.u)]
def Piece.words (p : Piece) : List Str := p.own ++ p.rows.flatMap Row.leaves
def bookU (b : List Piece) : U := .lst (b.map Piece.u)
theorem words_of_ev (p : Piece) (hz : p.words.length ≤ 1000000) (st : Store) : f_words_of [p.u] st = .ok (lS p.words) st := by
  obtain ⟨env', he, hI⟩ := for_lst (t := tgN 2) (b := t1_words_of) (st := st) (f := Row.u) (fun r env => ∃ (done : List Row) (s2 : Sl), p.rows = done ++ r ∧ env = [.val p.u, .own ((p.own ++ done.flatMap Row.leaves).map U.str), s2]) p.rows [.val p.u, .own (p.own.map U.str), .un] ⟨[], .un, rfl, by simp⟩ (fun x r env hx hI => by
    obtain ⟨done, s2, e1, rfl⟩ := hI
    have e2 := leaves_in_ev x st
    have hz2 : (p.own ++ done.flatMap Row.leaves).length + x.leaves.length ≤ 1000000 := by
      unfold Piece.words at hz
      rw [e1] at hz
      simp [List.flatMap_append, List.flatMap_cons] at hz ⊢
      omega
    refine ⟨_, [.val p.u, .own ((p.own ++ (done ++ [x]).flatMap Row.leaves).map U.str), .val x.u], rfl, .inl ?_, done ++ [x], _, by simp [e1], rfl⟩
    unfold t1_words_of
    have hz3 : p.own.length + (done.flatMap Row.leaves).length + x.leaves.length ≤ 16777216 := by rw [List.length_append] at hz2; omega
    simp only [tS] at e2
    simp [e2]
    simp at hz3
    simp [hz3])
  obtain ⟨done, s2, e1, rfl⟩ := hI
  rw [List.append_nil] at e1
  subst e1
  unfold f_words_of b_words_of
  have ix1 : ix2 p.u (.int 1) = some (tS p.own) := rfl
  have ix3 : ix2 p.u (.int 3) = some (.tup (p.rows.map Row.u)) := rfl
  generalize p.u = pu at *
  simp [ix1, ix3, he, frzE, frz1]
  simp [Piece.words]
def wordsB (b : List Piece) : List Str := b.flatMap Piece.words
def rosterB (b : List Piece) : List Str := sortS (dedS (wordsB b))
theorem roster_ev (b : List Piece) (hz : (wordsB b).length < 4000) (st : Store) : f_roster_in [bookU b] st = .ok (tS (rosterB b)) st := by
  obtain ⟨env', he, hI⟩ := for_lst (t := tgN 2) (b := t1_roster_in) (st := st) (f := Piece.u) (fun r env => ∃ (done : List Piece) (s2 : Sl), b = done ++ r ∧ env = [.val (bookU b), .own ((done.flatMap Piece.words).map U.str), s2]) b [.val (bookU b), .own [], .un] ⟨[], .un, rfl, rfl⟩ (fun x r env hx hI => by
    obtain ⟨done, s2, e1, rfl⟩ := hI
    have hz2 : (done.flatMap Piece.words).length + x.words.length < 4000 := by
      unfold wordsB at hz
      rw [e1] at hz
      simp [List.flatMap_append, List.flatMap_cons] at hz ⊢
      omega
    have e2 := words_of_ev x (by omega) st
    refine ⟨_, [.val (bookU b), .own (((done ++ [x]).flatMap Piece.words).map U.str), .val x.u], rfl, .inl ?_, done ++ [x], _, by simp [e1], rfl⟩
    unfold t1_roster_in
    have hz3 : (done.flatMap Piece.words).length + x.words.length ≤ 16777216 := by omega
    simp only [lS] at e2
    simp [e2]
    simp at hz3
    simp [hz3])
  obtain ⟨done, s2, e1, rfl⟩ := hI
  rw [List.append_nil] at e1
  subst e1
  unfold f_roster_in b_roster_in
  have it : items (bookU b) = some (b.map Piece.u) := rfl
  generalize bookU b = bu at *
  rw [show b.flatMap Piece.words = wordsB b from rfl] at he
  unfold rosterB
  generalize wordsB b = ws at *
  have ss : sortSet1 (.lst (ws.map U.str)) = some ((sortS (dedS ws)).map U.str) := by
    unfold sortSet1
    rw [show txts (.lst (ws.map U.str)) = some ws from strs_map _]
    show (if _ then _ else _) = _
    rw [if_pos (by omega)]
  simp [it, he, frzE, frz1, ss]
end C
namespace C
open PySem L2 D
def Stop : Out → Prop
  | .rt _ _ => True
  | .ex _ _ _ _ => True
  | .bad => True
  | _ => False
theorem Stop.seq {o : Out} (h : Stop o) (k : D.Env → Store → Out) : o.seq k = o := by
  cases o <;> first | rfl | exact h.elim
theorem for_stop {T : Type} {t : Tg} {b : DS} {st : Store} {f : T → U} (I : D.Env → Prop) (c : T → Bool) (F : T → Rs U) : ∀ (l : List T) (env : D.Env), I env → (∀ x ∈ l, (∀ y, l.find? c = some y → True) → ∀ env, I env → ∃ a, t (f x) = some a ∧ if c x = true then ∃ o, b (setE env a) st = o ∧ Stop o ∧ fin o = F x else ∃ env', b (setE env a) st = .nx env' st ∧ I env') →
    (∃ x, l.find? c = some x ∧ ∃ o, forL t b (l.map f) env st = o ∧ Stop o ∧ fin o = F x) ∨ (l.find? c = none ∧ ∃ env', forL t b (l.map f) env st = .nx env' st ∧ I env')
  | [], env, hI, _ => .inr ⟨rfl, env, rfl, hI⟩
  | x :: l, env, hI, h => by
    obtain ⟨a, h1, h2⟩ := h x (List.mem_cons_self ..) (fun _ _ => trivial) env hI
    by_cases q : c x = true
    · rw [if_pos q] at h2
      obtain ⟨o, h3, h4, h5⟩ := h2
      refine .inl ⟨x, List.find?_cons_of_pos q, o, ?_, h4, h5⟩
      rw [List.map_cons, for_cons, h1]
      simp only [h3]
      cases o <;> first | rfl | exact h4.elim
    · rw [if_neg q] at h2
      obtain ⟨env', h3, h4⟩ := h2
      rcases for_stop I c F l env' h4 (fun y hy _ => h y (List.mem_cons_of_mem _ hy) fun _ _ => trivial) with ⟨y, e1, o, e2, e3, e4⟩ | ⟨e1, env2, e2, e3⟩
      · exact .inl ⟨y, by rw [List.find?_cons_of_neg (by simpa using q)]; exact e1, o, by rw [List.map_cons, for_cons, h1]; simp [h3, e2], e3, e4⟩
      · exact .inr ⟨by rw [List.find?_cons_of_neg (by simpa using q)]; exact e1, env2, by rw [List.map_cons, for_cons, h1]; simp [h3, e2], e3⟩
/-- the same over numbered things, those ahead being known -/
theorem for_numStop {b : DS} {st : Store} {us : List U} (I : D.Env → Prop) (i j : Nat) (c : Nat → Bool) (F : Nat → Rs U) (env : D.Env) (h0 : I env)
    (h : ∀ k u, us[k]? = some u → (∀ m, m < k → c m = false) → ∀ env, I env → if c k = true then ∃ o, b ((env.set i (.val (.int (k : Int)))).set j (.val u)) st = o ∧ Stop o ∧ fin o = F k else ∃ env', b ((env.set i (.val (.int (k : Int)))).set j (.val u)) st = .nx env' st ∧ I env') :
    (∃ k, (List.range us.length).find? c = some k ∧ ∃ o, forL (tgT [i, j]) b (numU us) env st = o ∧ Stop o ∧ fin o = F k) ∨ ((List.range us.length).find? c = none ∧ ∃ env', forL (tgT [i, j]) b (numU us) env st = .nx env' st ∧ I env') := by
  have gen : ∀ (m k : Nat) (env : D.Env), k + m = us.length → (∀ n, n < k → c n = false) → I env →
      (∃ n, (List.range us.length).find? c = some n ∧ ∃ o, forL (tgT [i, j]) b ((numU us).drop k) env st = o ∧ Stop o ∧ fin o = F n) ∨ ((List.range us.length).find? c = none ∧ ∃ env', forL (tgT [i, j]) b ((numU us).drop k) env st = .nx env' st ∧ I env') := by
    intro m
    induction m with
    | zero =>
      intro k env hk hc hI
      refine .inr ⟨?_, env, ?_, hI⟩
      · rw [List.find?_eq_none]
        intro n hn
        have hn := List.mem_range.mp hn
        rw [hc n (by omega)]; exact Bool.false_ne_true
      · rw [List.drop_eq_nil_of_le (by rw [num_len]; omega)]
        rfl
    | succ m ih =>
      intro k env hk hc hI
      have hlt : k < us.length := by omega
      have hd : (numU us).drop k = .tup [.int (k : Int), us[k]] :: (numU us).drop (k + 1) := by
        rw [List.drop_eq_getElem_cons (by rw [num_len]; exact hlt)]
        congr 1
        have := List.getElem?_eq_getElem (l := numU us) (i := k) (by rw [num_len]; exact hlt)
        obtain ⟨v, h1, h2⟩ := num_get us k _ this
        rw [h2]
        rw [List.getElem?_eq_getElem hlt] at h1
        rw [Option.some.inj h1]
      have hs := h k us[k] (List.getElem?_eq_getElem hlt) hc env hI
      rw [hd, for_cons, tgT2_ap]
      by_cases q : c k = true
      · rw [if_pos q] at hs
        obtain ⟨o, h1, h2, h3⟩ := hs
        have hf : (List.range us.length).find? c = some k := by
          rw [List.find?_range_eq_some]
          exact ⟨q, List.mem_range.mpr hlt, fun n hn => by rw [hc n hn]; rfl⟩
        refine .inl ⟨k, hf, o, ?_, h2, h3⟩
        simp only [setE_cons, setE_nil, h1]
        cases o <;> first | rfl | exact h2.elim
      · rw [if_neg q] at hs
        obtain ⟨env', h1, h2⟩ := hs
        have := ih (k + 1) env' (by omega) (fun n hn => by
          by_cases e : n = k
          · subst e; simpa using q
          · exact hc n (by omega)) h2
        simp only [setE_cons, setE_nil, h1]
        exact this
  have := gen us.length 0 env (by omega) (fun n hn => absurd hn (Nat.not_lt_zero _)) h0
  simpa using this
/-! ### books looked at -/
def nameU : U → Str
  | .tup (.str n :: _) => n
  | _ => Str.empty
def rowsL : U → List U
  | .tup [_, _, _, .tup rs] => rs
  | _ => []
def fresh (us : List U) (k : Nat) : Bool := !decide (nameU (us.getD k .non) ∈ (us.take k).map nameU)
noncomputable def pieceOk (us : List U) (k : Nat) : Bool := headU (us.getD k .non) && fresh us k && (badAt (rowsL (us.getD k .non))).isNone
noncomputable def pieceWhy (us : List U) (k : Nat) : List U := [.int (k : Nat), if headU (us.getD k .non) && fresh us k then optU (badAt (rowsL (us.getD k .non))) else .non]
theorem head_shape {u : U} (h : headU u = true) : ∃ n o p rs, u = .tup [.str n, o, p, .tup rs] := by
  unfold headU at h
  split at h
  · rename_i n o p r
    simp only [Bool.and_eq_true] at h
    obtain ⟨x, rfl, _⟩ := wordU_str h.1.1.1.1
    cases r with
    | tup rs => exact ⟨x, o, p, rs, rfl⟩
    | _ => cases h.2
  · cases h
/-- how a refusal ends -/
structure Refuses (R : DA → DS) (F : List U → Rs U) (st : Store) : Prop where
  run : ∀ (a : DA) (env : D.Env) (us : List U), a env st = .ok us st → ∃ o, R a env st = o ∧ Stop o ∧ fin o = F us
theorem look_turn {R : DA → DS} {F : List U → Rs U} {st : Store} (hR : Refuses R F st) (us : List U) (hl : us.length ≤ 12) (ht : us.all tame4 = true) (k : Nat) (u : U) (hk : us[k]? = some u) (hc : ∀ m, m < k → (!pieceOk us m) = false) (s1 s2 s3 : Sl) :
    if (!pieceOk us k) = true then ∃ o, t1_look_at_book R (([.val (.lst us), s1, s2, s3, .un].set 1 (.val (.int (k : Int)))).set 2 (.val u)) st = o ∧ Stop o ∧ fin o = F (pieceWhy us k)
    else ∃ env', t1_look_at_book R (([.val (.lst us), s1, s2, s3, .un].set 1 (.val (.int (k : Int)))).set 2 (.val u)) st = .nx env' st ∧ ∃ s1 s2 s3, env' = [.val (.lst us), s1, s2, s3, .un] := by
  have hkl : k < us.length := (List.getElem?_eq_some_iff.mp hk).1
  have ed := getD_of hk
  rw [List.all_eq_true] at ht
  have hu4 := ht u (List.mem_of_getElem? hk)
  have e1 := is_head_ev (tame4_3 hu4) st
  have hpo : pieceOk us k = (headU u && fresh us k && (badAt (rowsL u)).isNone) := by unfold pieceOk; rw [ed]
  have hpw : pieceWhy us k = [.int (k : Nat), if headU u && fresh us k then optU (badAt (rowsL u)) else .non] := by unfold pieceWhy; rw [ed]
  rw [hpo, hpw]
  unfold t1_look_at_book
  cases hh : headU u with
  | false =>
    obtain ⟨o, r1, r2, r3⟩ := hR.run (acons (var 1) (acons (cst .non) anil)) [.val (.lst us), .val (.int (k : Int)), .val u, s3, .un] [.int (k : Int), .non] (by simp)
    rw [if_pos (by simp)]
    refine ⟨o, ?_, r2, by simpa using r3⟩
    simp [e1, hh, r1, r2.seq]
  | true =>
    obtain ⟨n, ow, pa, rs, rfl⟩ := head_shape hh
    have names : ∀ v ∈ us.take k, ∃ m, ix2 v (.int 0) = some (.str m) ∧ nameU v = m := by
      intro v hv
      obtain ⟨i, hi, rfl⟩ := List.getElem_of_mem hv
      rw [List.length_take] at hi
      have := hc i (by omega)
      have hp : pieceOk us i = true := by simpa using this
      unfold pieceOk at hp
      simp only [Bool.and_eq_true] at hp
      have hi' : i < us.length := by omega
      rw [getD_of (List.getElem?_eq_getElem hi')] at hp
      obtain ⟨n', o', p', rs', e⟩ := head_shape hp.1.1
      rw [List.getElem_take, e]
      exact ⟨n', rfl, rfl⟩
    have hcomp : compL (tgN 4) yesT (bin ix2 (var 4) (cst (.int 0))) ((us.take k).map id) [.val (.lst us), .val (.int (k : Int)), .val (.tup [.str n, ow, pa, .tup rs]), s3, .un] st = .ok ((us.take k).map fun v => U.str (nameU v)) st :=
      comp_allM (us.take k) fun v hv => ⟨_, rfl, by
        obtain ⟨m, q1, q2⟩ := names v hv
        have : setE [.val (.lst us), .val (.int (k : Int)), .val (.tup [.str n, ow, pa, .tup rs]), s3, .un] [(4, id v)] = [.val (.lst us), .val (.int (k : Int)), .val (.tup [.str n, ow, pa, .tup rs]), s3, .val v] := rfl
        rw [this]
        simp only [bin_ap, var_succ, var_zero, bind_ok, cst_ap, q1, of_some, q2]⟩
    rw [List.map_id] at hcomp
    have hin : in2 (.str n) (.lst ((us.take k).map fun v => U.str (nameU v))) = some (.bl (!fresh us k)) := by
      have := in_txtL n ((us.take k).map nameU)
      simp only [lS, List.map_map] at this
      rw [show (fun v => U.str (nameU v)) = U.str ∘ nameU from rfl, this]
      unfold fresh
      rw [ed, Bool.not_not]
      rfl
    have lt : min k us.length ≤ 16777216 := by omega
    cases hf : fresh us k with
    | false =>
      obtain ⟨o, r1, r2, r3⟩ := hR.run (acons (var 1) (acons (cst .non) anil)) [.val (.lst us), .val (.int (k : Int)), .val (.tup [.str n, ow, pa, .tup rs]), s3, .un] [.int (k : Int), .non] (by simp)
      rw [if_pos (by simp)]
      refine ⟨o, ?_, r2, by simpa using r3⟩
      rw [hf] at hin
      simp [e1, hh, lt, wipeE, hcomp, hin, r1, r2.seq, -List.map_take]
    | true =>
      rw [hf] at hin
      have trs : rs.all tame2 = true := by
        have h4 : tame4 (.tup [.str n, ow, pa, .tup rs]) = true := hu4
        have : [.str n, ow, pa, .tup rs].all tame3 = true := h4
        rw [List.all_eq_true] at this
        exact this (.tup rs) (by simp)
      have e2 := bad_row_gen rs (.tup rs) (.inl rfl) trs st
      have hrl : rowsL (.tup [.str n, ow, pa, .tup rs]) = rs := rfl
      rw [hrl]
      cases hb : badAt rs with
      | none =>
        rw [if_neg (by simp)]
        rw [hb] at e2
        refine ⟨[.val (.lst us), .val (.int (k : Int)), .val (.tup [.str n, ow, pa, .tup rs]), .val .non, .un], ?_, _, _, _, rfl⟩
        simp [e1, hh, lt, wipeE, hcomp, hin, e2, optU, -List.map_take]
      | some j =>
        rw [hb] at e2
        obtain ⟨o, r1, r2, r3⟩ := hR.run (acons (var 1) (acons (var 3) anil)) [.val (.lst us), .val (.int (k : Int)), .val (.tup [.str n, ow, pa, .tup rs]), .val (.int (j : Nat)), .un] [.int (k : Int), .int (j : Nat)] (by simp)
        rw [if_pos (by simp)]
        refine ⟨o, ?_, r2, by simpa [optU] using r3⟩
        simp [e1, hh, lt, wipeE, hcomp, hin, e2, optU, r1, r2.seq, -List.map_take]
/-- a book, typed -/
noncomputable def Piece.ok (p : Piece) : Bool := headU p.u && (badAt (p.rows.map Row.u)).isNone
theorem rows_typed : ∀ rs : List U, (∀ u ∈ rs, rowU u = true) → ∃ rows : List Row, rs = rows.map Row.u
  | [], _ => ⟨[], rfl⟩
  | u :: rs, h => by
    obtain ⟨rows, rfl⟩ := rows_typed rs fun v hv => h v (List.mem_cons_of_mem _ hv)
    obtain ⟨r, rfl, _⟩ := row_typed (h u (List.mem_cons_self ..))
    exact ⟨r :: rows, rfl⟩
theorem piece_typed {u : U} (h1 : headU u = true) (h2 : badAt (rowsL u) = none) : ∃ p : Piece, u = p.u ∧ p.ok = true := by
  obtain ⟨n, o, pa, rs, rfl⟩ := head_shape h1
  have h1' : (wordU (.str n) && areL o && argsU pa && nodupU pa && rowsU (.tup rs)) = true := h1
  simp only [Bool.and_eq_true] at h1'
  obtain ⟨ow, rfl, _⟩ := leaves_typed h1'.1.1.1.2
  obtain ⟨ps, rfl, _⟩ := args_typed h1'.1.1.2
  have h2 : badAt rs = none := h2
  have hr : ∀ u ∈ rs, rowU u = true := by
    intro u hu
    obtain ⟨i, hi, rfl⟩ := List.getElem_of_mem hu
    unfold badAt at h2
    rw [List.find?_eq_none] at h2
    have := h2 i (List.mem_range.mpr hi)
    have : stands rs i = true := by simpa using this
    unfold stands at this
    rw [getD_of (List.getElem?_eq_getElem hi), Bool.and_eq_true] at this
    exact this.1
  have := rows_typed rs hr
  obtain ⟨rows, rfl⟩ := this
  refine ⟨⟨n, ow, ps, rows⟩, rfl, ?_⟩
  unfold Piece.ok
  rw [Bool.and_eq_true]
  exact ⟨h1, by rw [h2]; rfl⟩
noncomputable def lookU (us : List U) : Option (List U) := if us.length < 1 ∨ 12 < us.length then some [.non, .non] else match (List.range us.length).find? (fun k => !pieceOk us k) with
  | some k => some (pieceWhy us k)
  | none => open Classical in if h : ∃ b : List Piece, us = b.map Piece.u then (if 8 < (rosterB (Classical.choose h)).length then some [.non, .non] else none) else none
theorem all_typed {us : List U} (h : (List.range us.length).find? (fun k => !pieceOk us k) = none) : ∃ b : List Piece, us = b.map Piece.u ∧ ∀ p ∈ b, p.ok = true := by
  rw [List.find?_eq_none] at h
  have hu : ∀ u ∈ us, ∃ p : Piece, u = p.u ∧ p.ok = true := by
    intro u hu
    obtain ⟨i, hi, rfl⟩ := List.getElem_of_mem hu
    have := h i (List.mem_range.mpr hi)
    have hp : pieceOk us i = true := by simpa using this
    unfold pieceOk at hp
    rw [getD_of (List.getElem?_eq_getElem hi)] at hp
    simp only [Bool.and_eq_true, Option.isNone_iff_eq_none] at hp
    exact piece_typed hp.1.1 hp.2
  clear h
  induction us with
  | nil => exact ⟨[], rfl, fun _ h => nomatch h⟩
  | cons u us ih =>
    obtain ⟨b, rfl, hb⟩ := ih fun v hv => hu v (List.mem_cons_of_mem _ hv)
    obtain ⟨p, rfl, hp⟩ := hu u (List.mem_cons_self ..)
    exact ⟨p :: b, rfl, fun q hq => by rcases List.mem_cons.mp hq with e | e; (subst e; exact hp); exact hb q e⟩
theorem look_list {R : DA → DS} {F : List U → Rs U} {st : Store} (hR : Refuses R F st) (us : List U) (ht : us.all tame4 = true) (hw : ∀ b : List Piece, us = b.map Piece.u → (wordsB b).length < 4000) :
    f_look_at_book R [.lst us] st = match lookU us with
      | none => .ok .non st
      | some why => F why := by
  have z1 : ((1 : Int) ≤ us.length) ↔ 1 ≤ us.length := by omega
  have z2 : ((us.length : Int) ≤ 12) ↔ us.length ≤ 12 := by omega
  unfold f_look_at_book b_look_at_book lookU
  by_cases c1 : 1 ≤ us.length
  · by_cases c2 : us.length ≤ 12
    · rw [if_neg (by omega)]
      have loop := for_numStop (b := t1_look_at_book R) (st := st) (us := us) (fun env => ∃ s1 s2 s3, env = [.val (.lst us), s1, s2, s3, .un]) 1 2 (fun k => !pieceOk us k) (fun k => F (pieceWhy us k)) [.val (.lst us), .un, .un, .un, .un] ⟨_, _, _, rfl⟩ (fun k u hk hc env hI => by
        obtain ⟨s1, s2, s3, rfl⟩ := hI
        exact look_turn hR us c2 ht k u hk hc s1 s2 s3)
      rcases loop with ⟨k, h1, o, h2, h3, h4⟩ | ⟨h1, env', h2, s1, s2, s3, rfl⟩
      · rw [h1]
        simp [z1, z2, c1, c2, h2, h3.seq, h4]
      · rw [h1]
        obtain ⟨b, rfl, hb⟩ := all_typed h1
        have hex : ∃ b' : List Piece, b.map Piece.u = b'.map Piece.u := ⟨b, rfl⟩
        simp only
        rw [dif_pos hex]
        have hs := Classical.choose_spec hex
        generalize Classical.choose hex = b' at hs
        have e1 := roster_ev b' (hw b' hs) st
        unfold bookU at e1
        rw [← hs] at e1
        generalize b.map Piece.u = us at *
        have z8 : ((8 : Int) < (rosterB b').length) ↔ 8 < (rosterB b').length := by omega
        simp only [tS] at e1
        by_cases c8 : 8 < (rosterB b').length
        · obtain ⟨o, r1, r2, r3⟩ := hR.run (acons (cst .non) (acons (cst .non) anil)) [.val (.lst us), s1, s2, s3, .un] [.non, .non] (by simp)
          simp [z1, z2, c1, c2, h2, e1, z8, c8, r1, r2.seq, r3]
        · simp [z1, z2, c1, c2, h2, e1, z8, c8]
    · obtain ⟨o, r1, r2, r3⟩ := hR.run (acons (cst .non) (acons (cst .non) anil)) [.val (.lst us), .un, .un, .un, .un] [.non, .non] (by simp)
      rw [if_pos (by omega)]
      simp [z1, z2, c1, c2, r1, r2.seq, r3]
  · obtain ⟨o, r1, r2, r3⟩ := hR.run (acons (cst .non) (acons (cst .non) anil)) [.val (.lst us), .un, .un, .un, .un] [.non, .non] (by simp)
    rw [if_pos (by omega)]
    simp [z1, z2, c1, r1, r2.seq, r3]
theorem look_none {R : DA → DS} {F : List U → Rs U} {st : Store} (hR : Refuses R F st) {u : U} {t : String} (ht : tyU u = some t) (hs : t ≠ "list") : f_look_at_book R [u] st = F [.non, .non] := by
  obtain ⟨o, r1, r2, r3⟩ := hR.run (acons (cst .non) (acons (cst .non) anil)) [.val u, .un, .un, .un, .un] [.non, .non] (by simp)
  have e1 : isiN [u, .ty "list"] = some (.bl false) := by rw [isi_ev ht (by decide)]; simp [isB, hs]
  unfold f_look_at_book b_look_at_book
  simp [e1, r1, r2.seq, r3]
/-- a good book -/
def goodB (b : List Piece) : Prop := 1 ≤ b.length ∧ b.length ≤ 12 ∧ (∀ p ∈ b, p.ok = true) ∧ (b.map Piece.name).Nodup ∧ (rosterB b).length ≤ 8
theorem word_tame {x : Str} (h : isWordS x = true) : tame (.str x) = true := by
  unfold isWordS at h
  simp only [Bool.and_eq_true, decide_eq_true_eq, List.all_eq_true] at h
  show (decide (x.length ≤ 16777216) && valid x) = true
  rw [Bool.and_eq_true, decide_eq_true_eq]
  refine ⟨by omega, ?_⟩
  unfold valid
  rw [Array.all_eq_true]
  intro i hi
  have hm : x.cps[i] ∈ letters := h.2 _ (by simp)
  have hl : ∀ c ∈ letters, c < 0x110000 := by decide +kernel
  simpa using hl _ hm
theorem words_tame {ws : List Str} (h : ∀ w ∈ ws, isWordS w = true) : (ws.map U.str).all tame = true := by
  rw [List.all_eq_true]
  intro u hu
  obtain ⟨w, hw, rfl⟩ := List.mem_map.mp hu
  exact word_tame (h w hw)
theorem args_words {as : List Str} (h : argsS as = true) : ∀ w ∈ as, isWordS w = true := by
  unfold argsS at h
  rw [Bool.and_eq_true, List.all_eq_true] at h
  exact h.2
theorem leaves_words {ws : List Str} (h : leavesS ws = true) : ∀ w ∈ ws, isWordS w = true := by
  obtain ⟨ws', e, _⟩ := leaves_typed h
  intro w hw
  unfold leavesS areL at h
  simp only [Bool.and_eq_true, List.all_eq_true, List.length_map] at h
  obtain ⟨i, hi, rfl⟩ := List.getElem_of_mem hw
  have := h.2 i (List.mem_range.mpr hi)
  unfold leafAt at this
  rw [getD_str ws i hi, Bool.and_eq_true] at this
  exact this.1
theorem leaves_len {ws : List Str} (h : leavesS ws = true) : ws.length ≤ 8 := by
  unfold leavesS areL at h
  simp only [Bool.and_eq_true, List.length_map, decide_eq_true_eq] at h
  exact h.1
theorem args_len {ws : List Str} (h : argsS ws = true) : ws.length ≤ 4 := by
  unfold argsS at h
  simp only [Bool.and_eq_true, decide_eq_true_eq] at h
  exact h.1
theorem row_tame {r : Row} (h : r.ok = true) : tame2 r.u = true := by
  have w : ∀ x : String, isWordS (Str.ofString x) = true → tame1 (.str (Str.ofString x)) = true := fun x h => word_tame h
  have w1 : ∀ x : Str, isWordS x = true → tame1 (.str x) = true := fun x h => word_tame h
  have w2 : ∀ as : List Str, (∀ x ∈ as, isWordS x = true) → tame1 (.tup (as.map U.str)) = true := fun as h => words_tame h
  have w3 : ∀ n : Int, tame1 (.int n) = true := fun _ => rfl
  have k1 : isWordS (Str.ofString "set") = true := by decide +kernel
  have k2 : isWordS (Str.ofString "same") = true := by decide +kernel
  have k3 : isWordS (Str.ofString "sum") = true := by decide +kernel
  have k4 : isWordS (Str.ofString "less") = true := by decide +kernel
  have k5 : isWordS (Str.ofString "hold") = true := by decide +kernel
  have k6 : isWordS (Str.ofString "call") = true := by decide +kernel
  have k7 : isWordS (Str.ofString "last") = true := by decide +kernel
  have k8 : isWordS (Str.ofString "give") = true := by decide +kernel
  have k9 : isWordS (Str.ofString "keep") = true := by decide +kernel
  have k10 : isWordS (Str.ofString "kept") = true := by decide +kernel
  have k11 : isWordS (Str.ofString "skip") = true := by decide +kernel
  have k12 : isWordS (Str.ofString "over") = true := by decide +kernel
  have k13 : isWordS (Str.ofString "on") = true := by decide +kernel
  have k14 : isWordS (Str.ofString "count") = true := by decide +kernel
  have k15 : isWordS (Str.ofString "ask") = true := by decide +kernel
  have k16 : isWordS (Str.ofString "deed") = true := by decide +kernel
  have k17 : isWordS (Str.ofString "done") = true := by decide +kernel
  cases r <;> simp only [Row.ok, Bool.and_eq_true] at h <;> simp [Row.u, tame2, w1, w3, *, -List.all_map]
  case hold x n as => exact w2 as (args_words h.2)
  case call x f as vs => exact ⟨w2 as (args_words h.1.2), w2 vs (leaves_words h.2)⟩
  case last f as vs => exact ⟨w2 as (args_words h.1.2), w2 vs (leaves_words h.2)⟩
theorem stands_row {rows : List Row} (h : badAt (rows.map Row.u) = none) : ∀ r ∈ rows, r.ok = true := by
  intro r hr
  obtain ⟨i, hi, rfl⟩ := List.getElem_of_mem hr
  unfold badAt at h
  rw [List.find?_eq_none] at h
  have hi' : i < (rows.map Row.u).length := by simpa using hi
  have := h i (List.mem_range.mpr hi')
  have : stands (rows.map Row.u) i = true := by simpa using this
  unfold stands at this
  rw [getD_of (List.getElem?_eq_getElem hi'), Bool.and_eq_true, List.getElem_map, row_back] at this
  exact this.1
structure POk (p : Piece) : Prop where
  name : isWordS p.name = true
  own : leavesS p.own = true
  params : argsS p.params = true
  nodup : (dedS p.params).length = p.params.length
  len1 : 1 ≤ p.rows.length
  len2 : p.rows.length ≤ 60
  rows : ∀ r ∈ p.rows, r.ok = true
  goes : ∀ k (h : k < p.rows.length), (k : Int) + 1 + (p.rows[k]).goes ≤ p.rows.length
theorem pok_iff (p : Piece) : p.ok = true ↔ POk p := by
  have hh : headU p.u = (isWordS p.name && leavesS p.own && argsU (tS p.params) && nodupU (tS p.params) && rowsU (.tup (p.rows.map Row.u))) := rfl
  have nd : nodupU (tS p.params) = decide ((dedS p.params).length = p.params.length) := by
    show (match strsU (p.params.map U.str) with | some ws => _ | none => _) = _
    rw [strs_map]
  have hr : rowsU (.tup (p.rows.map Row.u)) = decide (1 ≤ p.rows.length ∧ p.rows.length ≤ 60) := by
    unfold rowsU
    simp only [List.length_map]
  unfold Piece.ok
  rw [Bool.and_eq_true, hh, argsU_txt, nd, hr]
  simp only [Bool.and_eq_true, decide_eq_true_eq, Option.isNone_iff_eq_none]
  constructor
  · rintro ⟨⟨⟨⟨⟨h1, h2⟩, h3⟩, h4⟩, h5, h6⟩, h7⟩
    refine ⟨h1, h2, h3, h4, h5, h6, stands_row h7, fun k hk => ?_⟩
    unfold badAt at h7
    rw [List.find?_eq_none] at h7
    have hk' : k < (p.rows.map Row.u).length := by simpa using hk
    have := h7 k (List.mem_range.mpr hk')
    have : stands (p.rows.map Row.u) k = true := by simpa using this
    unfold stands at this
    rw [getD_of (List.getElem?_eq_getElem hk'), Bool.and_eq_true, List.getElem_map, goesU_row] at this
    have := of_decide_eq_true this.2
    simpa using this
  · intro h
    refine ⟨⟨⟨⟨⟨h.name, h.own⟩, h.params⟩, h.nodup⟩, h.len1, h.len2⟩, ?_⟩
    unfold badAt
    rw [List.find?_eq_none]
    intro k hk
    have hk := List.mem_range.mp hk
    have hk' : k < p.rows.length := by simpa using hk
    have e : stands (p.rows.map Row.u) k = true := by
      unfold stands
      rw [getD_of (List.getElem?_eq_getElem hk), Bool.and_eq_true, List.getElem_map, goesU_row, row_back]
      refine ⟨h.rows _ (List.getElem_mem hk'), decide_eq_true ?_⟩
      have := h.goes k hk'
      simpa using this
    simp [e]
theorem piece_tame (p : Piece) (h : p.ok = true) : tame4 p.u = true := by
  have h := (pok_iff p).mp h
  have w1 : tame3 (.str p.name) = true := word_tame h.name
  have two : ∀ ws : List Str, (∀ w ∈ ws, isWordS w = true) → tame3 (.tup (ws.map U.str)) = true := fun ws hw => by
    show (ws.map U.str).all tame2 = true
    rw [List.all_eq_true]
    intro u hu
    obtain ⟨w, hw', rfl⟩ := List.mem_map.mp hu
    exact word_tame (hw w hw')
  have w2 := two p.own (leaves_words h.own)
  have w3 := two p.params (args_words h.params)
  have w4 : tame3 (.tup (p.rows.map Row.u)) = true := by
    show (p.rows.map Row.u).all tame2 = true
    rw [List.all_eq_true]
    intro u hu
    obtain ⟨r, hr, rfl⟩ := List.mem_map.mp hu
    exact row_tame (h.rows r hr)
  show [U.str p.name, tS p.own, tS p.params, U.tup (p.rows.map Row.u)].all tame3 = true
  simp only [List.all_cons, List.all_nil, w1, w2, w3, w4, Bool.and_self]
theorem row_leaves_len {r : Row} (h : r.ok = true) : r.leaves.length ≤ 8 := by
  cases r <;> simp only [Row.ok, Bool.and_eq_true] at h <;> simp [Row.leaves]
  · exact leaves_len h.2
  · exact leaves_len h.2
theorem flat_len {A B : Type} (f : A → List B) (m : Nat) : ∀ l : List A, (∀ a ∈ l, (f a).length ≤ m) → (l.flatMap f).length ≤ l.length * m
  | [], _ => by simp
  | a :: l, h => by
    rw [List.flatMap_cons, List.length_append, List.length_cons, Nat.succ_mul]
    have := flat_len f m l fun b hb => h b (List.mem_cons_of_mem _ hb)
    have := h a (List.mem_cons_self ..)
    omega
theorem words_len {p : Piece} (h : p.ok = true) : p.words.length ≤ 8 + p.rows.length * 8 := by
  have h := (pok_iff p).mp h
  unfold Piece.words
  rw [List.length_append]
  have h1 := leaves_len h.own
  have h2 := flat_len Row.leaves 8 p.rows fun r hr => row_leaves_len (h.rows r hr)
  omega
theorem mapS_inj : ∀ {as bs : List Str}, as.map U.str = bs.map U.str → as = bs
  | [], [], _ => rfl
  | [], _ :: _, h => by simp at h
  | _ :: _, [], h => by simp at h
  | a :: as, b :: bs, h => by
    simp only [List.map_cons, List.cons.injEq, U.str.injEq] at h
    rw [h.1, mapS_inj h.2]
set_option maxHeartbeats 4000000 in
theorem rowU_inj {r r' : Row} (h : r.u = r'.u) : r = r' := by
  cases r <;> cases r' <;> simp [Row.u] at h <;> first | rfl | (simp [h]; done) | skip
  · obtain ⟨rfl, rfl, h⟩ := h; rw [mapS_inj h]
  · obtain ⟨rfl, rfl, h1, h2⟩ := h; rw [mapS_inj h1, mapS_inj h2]
  · obtain ⟨rfl, h1, h2⟩ := h; rw [mapS_inj h1, mapS_inj h2]
theorem map_inj {A B : Type} {f : A → B} (h : ∀ a b, f a = f b → a = b) : ∀ {as bs : List A}, as.map f = bs.map f → as = bs
  | [], [], _ => rfl
  | [], _ :: _, h => by simp at h
  | _ :: _, [], h => by simp at h
  | a :: as, b :: bs, e => by
    simp only [List.map_cons, List.cons.injEq] at e
    rw [h a b e.1, map_inj h e.2]
theorem pieceU_inj {p q : Piece} (h : p.u = q.u) : p = q := by
  obtain ⟨n, o, pa, rs⟩ := p
  obtain ⟨n', o', pa', rs'⟩ := q
  simp only [Piece.u, U.tup.injEq, List.cons.injEq, U.str.injEq, and_true] at h
  obtain ⟨rfl, h1, h2, h3⟩ := h
  rw [mapS_inj h1, mapS_inj h2, map_inj (fun _ _ => rowU_inj) h3]
theorem bookU_inj {a b : List Piece} (h : a.map Piece.u = b.map Piece.u) : a = b := map_inj (fun _ _ => pieceU_inj) h
theorem look_of_good {b : List Piece} (hg : goodB b) : lookU (b.map Piece.u) = none := by
  obtain ⟨h1, h2, h3, h4, h5⟩ := hg
  unfold lookU
  rw [List.length_map, if_neg (by omega)]
  have hf : (List.range b.length).find? (fun k => !pieceOk (b.map Piece.u) k) = none := by
    rw [List.find?_eq_none]
    intro k hk
    have hk := List.mem_range.mp hk
    have hk' : k < (b.map Piece.u).length := by simpa using hk
    have : pieceOk (b.map Piece.u) k = true := by
      unfold pieceOk fresh
      rw [getD_of (List.getElem?_eq_getElem hk'), List.getElem_map]
      have ho := h3 _ (List.getElem_mem hk)
      unfold Piece.ok at ho
      rw [Bool.and_eq_true] at ho
      have nm : ∀ p : Piece, nameU p.u = p.name := fun _ => rfl
      have rl : ∀ p : Piece, rowsL p.u = p.rows.map Row.u := fun _ => rfl
      rw [ho.1, rl, ho.2, nm, ← List.map_take, List.map_map]
      simp only [Bool.true_and, Bool.and_true, Bool.not_eq_true', decide_eq_false_iff_not]
      rw [show nameU ∘ Piece.u = Piece.name from rfl, List.map_take]
      intro hm
      rw [List.mem_take_iff_getElem] at hm
      obtain ⟨j, hj, e⟩ := hm
      rw [List.length_map] at hj
      have := (List.pairwise_iff_getElem.mp h4) j k (by simp; omega) (by simpa using hk) (by omega)
      apply this
      rw [e, List.getElem_map]
    rw [this]; simp
  rw [hf]
  simp only
  have hex : ∃ b' : List Piece, b.map Piece.u = b'.map Piece.u := ⟨b, rfl⟩
  rw [dif_pos hex]
  have := bookU_inj (Classical.choose_spec hex)
  rw [← this, if_neg (by omega)]
theorem look_good {R : DA → DS} {F : List U → Rs U} {st : Store} (hR : Refuses R F st) (b : List Piece) (hg : goodB b) (hw : (wordsB b).length < 4000) : f_look_at_book R [bookU b] st = .ok .non st := by
  have e := look_list hR (b.map Piece.u) (by
    rw [List.all_eq_true]
    intro u hu
    obtain ⟨p, hp, rfl⟩ := List.mem_map.mp hu
    exact piece_tame p (hg.2.2.1 p hp)) (fun b' h => by rw [← bookU_inj h]; exact hw)
  rw [look_of_good hg] at e
  exact e
theorem refuses_bad (st : Store) : Refuses (fun _ => sBad) (fun _ => .bad) st := ⟨fun a env us h => ⟨.bad, rfl, trivial, rfl⟩⟩
end C
namespace C
open PySem L2 D
/-! ### what is equal to itself -/
def eqOk : Nat → U → Bool
  | 0, _ => false
  | _ + 1, .non => true
  | _ + 1, .bl _ => true
  | _ + 1, .int _ => true
  | _ + 1, .str _ => true
  | n + 1, .tup us => us.all (eqOk n)
  | n + 1, .lst us => us.all (eqOk n)
  | _ + 1, _ => false
theorem eqZ_refl {f : U → U → Option Bool} : ∀ us : List U, (∀ u ∈ us, f u u = some true) → eqZ f us us = some true
  | [], _ => rfl
  | u :: us, h => by
    unfold eqZ
    rw [h u (List.mem_cons_self ..), eqZ_refl us fun v hv => h v (List.mem_cons_of_mem _ hv)]
    rfl
theorem eqF_refl : ∀ (n : Nat) (u : U), eqOk n u = true → eqF n u u = some true
  | 0, _, h => by cases h
  | n + 1, u, h => by
    cases u with
    | tup us =>
      have h : us.all (eqOk n) = true := h
      rw [List.all_eq_true] at h
      unfold eqF
      rw [eqZ_refl us fun u hu => eqF_refl n u (h u hu)]
      simp
    | lst us =>
      have h : us.all (eqOk n) = true := h
      rw [List.all_eq_true] at h
      unfold eqF
      rw [if_pos rfl, eqZ_refl us fun u hu => eqF_refl n u (h u hu)]
    | non => rfl
    | bl b => unfold eqF eqP; simp
    | int i => unfold eqF eqP; simp
    | str x => unfold eqF eqP; simp
    | _ => cases h
theorem eqOk_mono : ∀ (n m : Nat) (u : U), n ≤ m → eqOk n u = true → eqOk m u = true
  | 0, _, _, _, h => by cases h
  | n + 1, m, u, hm, h => by
    obtain ⟨k, rfl⟩ : ∃ k, m = k + 1 := ⟨m - 1, by omega⟩
    cases u with
    | tup us =>
      have h : us.all (eqOk n) = true := h
      show us.all (eqOk k) = true
      rw [List.all_eq_true] at h ⊢
      exact fun u hu => eqOk_mono n k u (by omega) (h u hu)
    | lst us =>
      have h : us.all (eqOk n) = true := h
      show us.all (eqOk k) = true
      rw [List.all_eq_true] at h ⊢
      exact fun u hu => eqOk_mono n k u (by omega) (h u hu)
    | non => rfl
    | bl b => rfl
    | int i => rfl
    | str x => rfl
    | _ => cases h
theorem eq2_refl {n : Nat} {u : U} (h : eqOk n u = true) (hn : n ≤ 60) : eq2 u u = some (.bl true) := by
  unfold eq2
  rw [eqF_refl 60 u (eqOk_mono n 60 u hn h)]; rfl
theorem ne2_refl {n : Nat} {u : U} (h : eqOk n u = true) (hn : n ≤ 60) : ne2 u u = some (.bl false) := by
  unfold ne2
  rw [eqF_refl 60 u (eqOk_mono n 60 u hn h)]; rfl
theorem eqOk_txt (n : Nat) (ws : List Str) : eqOk (n + 2) (tS ws) = true := by
  show (ws.map U.str).all (eqOk (n + 1)) = true
  rw [List.all_eq_true]
  intro u hu
  obtain ⟨w, _, rfl⟩ := List.mem_map.mp hu
  rfl
theorem eqOk_row (n : Nat) (r : Row) : eqOk (n + 3) r.u = true := by
  have h := eqOk_txt n
  cases r <;> simp [Row.u, eqOk, -List.all_map] <;> first | exact h _ | exact ⟨h _, h _⟩
theorem eqOk_piece (n : Nat) (p : Piece) : eqOk (n + 5) p.u = true := by
  show [U.str p.name, tS p.own, tS p.params, U.tup (p.rows.map Row.u)].all (eqOk (n + 4)) = true
  have h1 := eqOk_txt (n + 2) p.own
  have h2 := eqOk_txt (n + 2) p.params
  have h3 : eqOk (n + 4) (.tup (p.rows.map Row.u)) = true := by
    show (p.rows.map Row.u).all (eqOk (n + 3)) = true
    rw [List.all_eq_true]
    intro u hu
    obtain ⟨r, _, rfl⟩ := List.mem_map.mp hu
    exact eqOk_row n r
  simp only [List.all_cons, List.all_nil, h1, h2, h3, Bool.and_true]
  rfl
theorem eqOk_book (n : Nat) (b : List Piece) : eqOk (n + 6) (bookU b) = true := by
  show (b.map Piece.u).all (eqOk (n + 5)) = true
  rw [List.all_eq_true]
  intro u hu
  obtain ⟨r, _, rfl⟩ := List.mem_map.mp hu
  exact eqOk_piece n r
end C
namespace G1
open PySem L2 D C
def b_l_leafmenu : DS := (sSeq (sRet (appN szL (acons (cst (.str (Str.ofString "ask"))) (acons (cst (.str (Str.ofString "b"))) (acons (cst (.str (Str.ofString "gate"))) (acons (cst (.str (Str.ofString "open"))) (acons (cst (.str (Str.ofString "pay"))) (acons (cst (.str (Str.ofString "w"))) (acons (cst (.str (Str.ofString "x"))) (acons (cst (.str (Str.ofString "zz"))) anil)))))))))) sNil)
def f_l_leafmenu : List U → Store → Rs U := runB 0 0 b_l_leafmenu
def b_l_leaves : DS := (sSeq (sSet 2 (slD (appU f_l_leafmenu anil) noO (soO (var 1)))) (sSeq (sRet (appN tupN (acons (newL (compD (itA rng1 (acons (appN lenN (acons (var 2) anil)) anil)) [3] (tgN 3) (tst (bin eq2 (bin mod2 (bin fdiv2 (var 0) (bin shl2 (cst (.int 1)) (var 3))) (cst (.int 2))) (cst (.int 1)))) (bin ix2 (var 2) (var 3)))) anil))) sNil))
def f_l_leaves : List U → Store → Rs U := runB 4 2 b_l_leaves
def b_l_local : DS := (sSeq (sRet (bin ix2 (appN szL (acons (cst (.str (Str.ofString "x"))) (acons (cst (.str (Str.ofString "f"))) (acons (cst (.str (Str.ofString "y"))) (acons (cst (.str (Str.ofString "set"))) (acons (cst (.str (Str.ofString "a"))) (acons (cst (.str (Str.ofString "pay"))) anil))))))) (bin mod2 (var 0) (cst (.int 6))))) sNil)
def f_l_local : List U → Store → Rs U := runB 1 1 b_l_local
def t1_l_numbers : DS := (sSeq (sIf (andT (tst (bin ge2 (var 2) (bin pow2 (cst (.int 10)) (cst (.int 18))))) (tst (bin gt2 (var 3) (cst (.int 0))))) (sSeq (sApp 4 (bin mod2 (var 3) (bin ix2 (var 1) (var 5)))) (sSeq (sSet 3 (bin fdiv2 (var 3) (bin ix2 (var 1) (var 5)))) sNil)) (sSeq (sSet 6 (bin mod2 (bin mul2 (bin add2 (bin add2 (bin mod2 (var 2) (cst (.int 2147483629))) (bin mul2 (cst (.int 7919)) (var 5))) (cst (.int 1))) (bin add2 (bin mul2 (cst (.int 2)) (var 5)) (cst (.int 48271)))) (cst (.int 2147483647)))) (sSeq (sApp 4 (bin mod2 (bin fdiv2 (bin mod2 (bin pow2 (var 6) (cst (.int 5))) (cst (.int 2147483587))) (cst (.int 16))) (bin ix2 (var 1) (var 5)))) sNil))) sNil)
def b_l_numbers : DS := (sSeq (sSet 2 (appN maxN (acons (var 0) (acons (bin sub2 (neg1D (cst (.int 1))) (var 0)) anil)))) (sSeq (sSet 3 (var 2)) (sSeq (sOwn 4 (szDL anil)) (sSeq (sFor (itA rng1 (acons (appN lenN (acons (var 1) anil)) anil)) (tgN 5) t1_l_numbers) (sSeq (frzS 4 (sRet (var 4))) sNil)))))
def f_l_numbers : List U → Store → Rs U := runB 7 2 b_l_numbers
def t1_l_heads : DS := (sSeq (sUnp (tgA [9, 10, 11]) (slD (var 3) (soO (bin add2 (cst (.int 3)) (bin mul2 (cst (.int 3)) (var 6)))) (soO (bin add2 (cst (.int 6)) (bin mul2 (cst (.int 3)) (var 6)))))) (sSeq (sSet 7 (bin ix2 (var 4) (bin mod2 (bin add2 (bin ix2 (var 3) (cst (.int 1))) (bin mul2 (var 6) (bin add2 (bin mul2 (cst (.int 2)) (bin ix2 (var 3) (cst (.int 2)))) (cst (.int 1))))) (cst (.int 8))))) (sSeq (sSet 8 (appN tupN (acons (newL (compD (itA rng1 (acons (var 10) anil)) [12] (tgN 12) yesT (appU f_l_local (acons (bin add2 (var 11) (var 12)) anil)))) anil))) (sSeq (sApp 5 (appN szT (acons (var 7) (acons (appU f_l_leaves (acons (var 9) (acons (var 2) anil))) (acons (var 8) anil))))) sNil))))
def b_l_heads : DS := (sSeq (sSet 3 (appU f_l_numbers (acons (var 0) (acons (bin add2 (appN szL (acons (var 1) (acons (cst (.int 8)) (acons (cst (.int 4)) anil)))) (bin mul2 (appN szL (acons (cst (.int 256)) (acons (cst (.int 3)) (acons (cst (.int 6)) anil)))) (var 1))) anil)))) (sSeq (sSet 4 (appN szL (acons (cst (.str (Str.ofString "main"))) (acons (cst (.str (Str.ofString "f"))) (acons (cst (.str (Str.ofString "pay"))) (acons (cst (.str (Str.ofString "x"))) (acons (cst (.str (Str.ofString "gate"))) (acons (cst (.str (Str.ofString "h"))) (acons (cst (.str (Str.ofString "call"))) (acons (cst (.str (Str.ofString "zz"))) anil)))))))))) (sSeq (sOwn 5 (szDL anil)) (sSeq (sFor (itA rng1 (acons (bin add2 (cst (.int 1)) (bin ix2 (var 3) (cst (.int 0)))) anil)) (tgN 6) t1_l_heads) (sSeq (frzS 5 (sRet (var 5))) sNil)))))
def f_l_heads : List U → Store → Rs U := runB 13 3 b_l_heads
def b_l_args : DS := (sSeq (sRet (appN tupN (acons (newL (compD (itA rng1 (acons (var 1) anil)) [2] (tgN 2) yesT (appU f_l_local (acons (bin fdiv2 (var 0) (bin ix2 (appN szL (acons (cst (.int 1)) (acons (cst (.int 6)) (acons (cst (.int 36)) (acons (cst (.int 216)) anil))))) (var 2))) anil)))) anil))) sNil)
def f_l_args : List U → Store → Rs U := runB 3 2 b_l_args
def b_l_calls : DS := (sSeq (sUnp (tgA [7, 8, 9]) (bin ix2 (var 1) (bin mod2 (bin ix2 (var 0) (cst (.int 1))) (appN lenN (acons (var 1) anil))))) (sSeq (sSet 3 (bin mod2 (bin ix2 (var 0) (cst (.int 2))) (bin add2 (appN lenN (acons (var 9) anil)) (cst (.int 1))))) (sSeq (sSet 4 (appU f_l_args (acons (bin ix2 (var 0) (cst (.int 3))) (acons (appN lenN (acons (var 9) anil)) anil)))) (sSeq (sSet 5 (appU f_l_leaves (acons (bin ix2 (appN szL (acons (cst (.int 0)) (acons (bin ix2 (var 0) (cst (.int 4))) anil))) (bin mod2 (bin ix2 (var 0) (cst (.int 5))) (cst (.int 2)))) (acons (var 2) anil)))) (sSeq (sSet 6 (appN szL (acons (appN szT (acons (cst (.str (Str.ofString "hold"))) (acons (cst (.str (Str.ofString "f"))) (acons (var 7) (acons (slD (var 4) noO (soO (var 3))) anil))))) anil))) (sSeq (sIf (tst (bin eq2 (bin ix2 (var 0) (cst (.int 0))) (cst (.int 6)))) (sSeq (sRet (bin add2 (var 6) (appN szL (acons (appN szT (acons (cst (.str (Str.ofString "last"))) (acons (cst (.str (Str.ofString "f"))) (acons (slD (var 4) (soO (var 3)) noO) (acons (var 5) anil))))) anil)))) sNil) sNil) (sSeq (sRet (bin add2 (var 6) (appN szL (acons (appN szT (acons (cst (.str (Str.ofString "call"))) (acons (appU f_l_local (acons (bin ix2 (var 0) (cst (.int 6))) anil)) (acons (cst (.str (Str.ofString "f"))) (acons (slD (var 4) (soO (var 3)) noO) (acons (var 5) anil)))))) anil)))) sNil)))))))
def f_l_calls : List U → Store → Rs U := runB 10 3 b_l_calls
def b_l_step : DS := (sSeq (sSet 3 (bin ix2 (var 0) (cst (.int 0)))) (sSeq (sUnp (tgA [5, 6, 7]) (newL (compD (itA rng2 (acons (cst (.int 1)) (acons (cst (.int 4)) anil))) [8] (tgN 8) yesT (appU f_l_local (acons (bin ix2 (var 0) (var 8)) anil))))) (sSeq (sSet 4 (bin ix2 (slD (appU f_l_leafmenu anil) noO (soO (var 2))) (bin mod2 (bin ix2 (var 0) (cst (.int 4))) (var 2)))) (sSeq (sIf (tst (bin eq2 (var 3) (cst (.int 0)))) (sSeq (sRet (appN szL (acons (appN szT (acons (cst (.str (Str.ofString "set"))) (acons (var 5) (acons (bin ix2 (appN szL (acons (cst (.int 0)) (acons (cst (.int 1)) (acons (neg1D (cst (.int 1))) (acons (cst (.int 2)) (acons (bin pow2 (cst (.int 10)) (cst (.int 18))) (acons (neg1D (bin pow2 (cst (.int 10)) (cst (.int 18)))) (acons (bin ix2 (var 0) (cst (.int 4))) (acons (bin ix2 (var 0) (cst (.int 5))) anil))))))))) (bin mod2 (bin ix2 (var 0) (cst (.int 5))) (cst (.int 8)))) anil)))) anil))) sNil) sNil) (sSeq (sIf (tst (bin eq2 (var 3) (cst (.int 1)))) (sSeq (sRet (appN szL (acons (appN szT (acons (cst (.str (Str.ofString "same"))) (acons (var 5) (acons (var 6) anil)))) anil))) sNil) sNil) (sSeq (sIf (tst (bin in2 (var 3) (appN szT (acons (cst (.int 2)) (acons (cst (.int 3)) anil))))) (sSeq (sRet (appN szL (acons (appN szT (acons (bin ix2 (appN szL (acons (cst (.str (Str.ofString "sum"))) (acons (cst (.str (Str.ofString "less"))) anil))) (bin sub2 (var 3) (cst (.int 2)))) (acons (var 5) (acons (var 6) (acons (var 7) anil))))) anil))) sNil) sNil) (sSeq (sIf (tst (bin in2 (var 3) (appN szT (acons (cst (.int 4)) (acons (cst (.int 5)) (acons (cst (.int 6)) anil)))))) (sSeq (sRet (appU f_l_calls (acons (var 0) (acons (var 1) (acons (var 2) anil))))) sNil) sNil) (sSeq (sIf (tst (bin eq2 (var 3) (cst (.int 7)))) (sSeq (sRet (appN szL (acons (appN szT (acons (cst (.str (Str.ofString "hold"))) (acons (var 5) (acons (bin ix2 (bin ix2 (var 1) (bin mod2 (bin ix2 (var 0) (cst (.int 4))) (appN lenN (acons (var 1) anil)))) (cst (.int 0))) (acons (appU f_l_args (acons (bin ix2 (var 0) (cst (.int 3))) (acons (bin mod2 (bin ix2 (var 0) (cst (.int 5))) (cst (.int 5))) anil))) anil))))) anil))) sNil) sNil) (sSeq (sIf (tst (bin eq2 (var 3) (cst (.int 8)))) (sSeq (sRet (appN szL (acons (appN szT (acons (cst (.str (Str.ofString "keep"))) (acons (bin ix2 (appN szL (acons (cst (.str (Str.ofString "c"))) (acons (cst (.str (Str.ofString "x"))) (acons (cst (.str (Str.ofString "kk"))) anil)))) (bin mod2 (bin ix2 (var 0) (cst (.int 5))) (cst (.int 3)))) (acons (var 5) anil)))) anil))) sNil) sNil) (sSeq (sIf (tst (bin eq2 (var 3) (cst (.int 9)))) (sSeq (sRet (appN szL (acons (appN szT (acons (cst (.str (Str.ofString "kept"))) (acons (var 5) (acons (bin ix2 (appN szL (acons (cst (.str (Str.ofString "c"))) (acons (cst (.str (Str.ofString "x"))) (acons (cst (.str (Str.ofString "kk"))) anil)))) (bin mod2 (bin ix2 (var 0) (cst (.int 5))) (cst (.int 3)))) anil)))) anil))) sNil) sNil) (sSeq (sIf (tst (bin eq2 (var 3) (cst (.int 10)))) (sSeq (sRet (appN szL (acons (appN szT (acons (cst (.str (Str.ofString "skip"))) (acons (var 5) (acons (bin ix2 (var 0) (cst (.int 5))) anil)))) anil))) sNil) sNil) (sSeq (sIf (tst (bin eq2 (var 3) (cst (.int 11)))) (sSeq (sRet (appN szL (acons (appN szT (acons (cst (.str (Str.ofString "ask"))) (acons (var 4) (acons (bin ix2 (var 0) (cst (.int 5))) anil)))) anil))) sNil) sNil) (sSeq (sIf (tst (bin eq2 (var 3) (cst (.int 12)))) (sSeq (sRet (appN szL (acons (appN szT (acons (cst (.str (Str.ofString "deed"))) (acons (var 4) (acons (var 5) anil)))) anil))) sNil) sNil) (sSeq (sIf (tst (bin eq2 (var 3) (cst (.int 13)))) (sSeq (sRet (appN szL (acons (appN szT (acons (cst (.str (Str.ofString "give"))) (acons (var 5) anil))) anil))) sNil) sNil) (sSeq (sIf (tst (bin eq2 (var 3) (cst (.int 14)))) (sSeq (sRet (appN szL (acons (appN szT (acons (cst (.str (Str.ofString "call"))) (acons (var 5) (acons (var 6) (acons (appU f_l_args (acons (bin ix2 (var 0) (cst (.int 3))) (acons (bin mod2 (bin ix2 (var 0) (cst (.int 5))) (cst (.int 3))) anil))) (acons (appU f_l_leaves (acons (bin ix2 (appN szL (acons (cst (.int 0)) (acons (bin ix2 (var 0) (cst (.int 4))) anil))) (bin mod2 (bin ix2 (var 0) (cst (.int 6))) (cst (.int 2)))) (acons (var 2) anil))) anil)))))) anil))) sNil) sNil) (sSeq (sRet (appN szL (acons (bin ix2 (appN szL (acons (appN szT (acons (cst (.str (Str.ofString "on"))) anil)) (acons (appN szT (acons (cst (.str (Str.ofString "over"))) (acons (bin ix2 (var 0) (cst (.int 5))) anil))) (acons (appN szT (acons (cst (.str (Str.ofString "count"))) anil)) (acons (appN szT (acons (cst (.str (Str.ofString "done"))) (acons (var 4) (acons (var 5) anil)))) anil))))) (bin mod2 (bin ix2 (var 0) (cst (.int 4))) (cst (.int 4)))) anil))) sNil))))))))))))))))
def f_l_step : List U → Store → Rs U := runB 9 3 b_l_step
def t1_l_rows : DS := (sSeq (sSet 5 (bin add2 (var 5) (appU f_l_step (acons (slD (var 4) (soO (bin add2 (cst (.int 1)) (bin mul2 (cst (.int 7)) (var 6)))) (soO (bin add2 (cst (.int 8)) (bin mul2 (cst (.int 7)) (var 6))))) (acons (var 1) (acons (var 3) anil)))))) sNil)
def t2_l_rows : DS := (sSeq (sSet 8 (bin sub2 (bin sub2 (appN lenN (acons (var 5) anil)) (cst (.int 1))) (var 6))) (sSeq (sSet 9 (bin ix2 (var 5) (var 6))) (sSeq (sIf (tst (bin in2 (bin ix2 (var 9) (cst (.int 0))) (appN szT (acons (cst (.str (Str.ofString "skip"))) (acons (cst (.str (Str.ofString "over"))) (acons (cst (.str (Str.ofString "ask"))) anil)))))) (sSeq (sIf (tst (bin eq2 (var 8) (cst (.int 0)))) (sSeq (sSet 9 (appN szT (acons (cst (.str (Str.ofString "on"))) anil))) sNil) (sSeq (sSet 9 (bin add2 (slD (var 9) noO (soO (neg1D (cst (.int 1))))) (appN szT (acons (bin add2 (cst (.int 1)) (bin mod2 (bin ix2 (var 9) (neg1D (cst (.int 1)))) (appN minN (acons (var 8) (acons (cst (.int 3)) anil))))) anil)))) sNil)) sNil) sNil) (sSeq (sApp 7 (var 9)) sNil))))
def b_l_rows : DS := (sSeq (sSet 4 (appU f_l_numbers (acons (var 0) (acons (bin add2 (appN szL (acons (var 2) anil)) (bin mul2 (appN szL (acons (cst (.int 16)) (acons (cst (.int 60)) (acons (cst (.int 60)) (acons (cst (.int 1296)) (acons (cst (.int 256)) (acons (cst (.int 60)) (acons (cst (.int 6)) anil)))))))) (var 2))) anil)))) (sSeq (sSet 5 (appN szL anil)) (sSeq (sFor (itA rng1 (acons (bin add2 (cst (.int 1)) (bin ix2 (var 4) (cst (.int 0)))) anil)) (tgN 6) t1_l_rows) (sSeq (sOwn 7 (szDL anil)) (sSeq (sFor (itA rng1 (acons (appN lenN (acons (var 5) anil)) anil)) (tgN 6) t2_l_rows) (sSeq (frzS 7 (sRet (appN tupN (acons (var 7) anil)))) sNil))))))
def f_l_rows : List U → Store → Rs U := runB 10 4 b_l_rows
def t1_l_book : DS := (sSeq (sSet 7 (bin ix2 (bin add2 (var 0) (bin mul2 (appN szL (acons (cst (.int 0)) anil)) (cst (.int 12)))) (bin add2 (cst (.int 1)) (var 6)))) (sSeq (sApp 5 (bin add2 (bin ix2 (var 4) (var 6)) (appN szT (acons (appU f_l_rows (acons (var 7) (acons (var 4) (acons (var 2) (acons (var 3) anil))))) anil)))) sNil))
def b_l_book : DS := (sSeq (sSet 4 (appU f_l_heads (acons (bin ix2 (var 0) (cst (.int 0))) (acons (var 1) (acons (var 3) anil))))) (sSeq (sOwn 5 (szDL anil)) (sSeq (sFor (itA rng1 (acons (appN lenN (acons (var 4) anil)) anil)) (tgN 6) t1_l_book) (sSeq (frzS 5 (sRet (var 5))) sNil))))
def f_l_book : List U → Store → Rs U := runB 8 4 b_l_book
/-! ### the menus -/
def lmS : List Str := [Str.ofString "ask", Str.ofString "b", Str.ofString "gate", Str.ofString "open", Str.ofString "pay", Str.ofString "w", Str.ofString "x", Str.ofString "zz"]
theorem lm_words : ∀ w ∈ lmS, isWordS w = true := by decide +kernel
theorem lm_up : upS lmS = true := by decide +kernel
theorem lm_ev (st : Store) : f_l_leafmenu [] st = .ok (lS lmS) st := (rfl)
def lvS (n : Int) : List Str := ((List.range 8).filter fun i => decide (n / (2 ^ i) % 2 = 1)).map fun i => lmS.getD i Str.empty
theorem up_sub {l m : List Str} (h : l.Sublist m) (hu : upS m = true) : upS l = true := pw_up l ((up_pw m hu).sublist h)
theorem lv_sub (n : Int) : (lvS n).Sublist lmS := by
  have h : lmS = (List.range 8).map fun i => lmS.getD i Str.empty := by decide +kernel
  unfold lvS
  conv => rhs; rw [h]
  exact List.Sublist.map _ List.filter_sublist
theorem sub_leaves {ws : List Str} (h : ws.Sublist lmS) : leavesS ws = true := by
  unfold leavesS
  rw [areL_txt ws fun w hw => lm_words w (h.subset hw), ← up_iff, up_sub h lm_up]
  have : ws.length ≤ 8 := h.length_le
  simpa using this
theorem lm_at (i : Nat) (h : i < 8) : ix2 (lS lmS) (.int (i : Int)) = some (.str (lmS.getD i Str.empty)) := by
  show atI (lmS.map U.str) (i : Int) = _
  rw [atI_cast, List.getElem?_map, List.getElem?_eq_getElem (show i < lmS.length from h), List.getD_eq_getElem?_getD, List.getElem?_eq_getElem (show i < lmS.length from h)]
  rfl
theorem two_pow (i : Nat) (h : i < 8) : (0 : Int) < 2 ^ i ∧ (2 : Int) ^ i < 1073741824 := by
  have : i = 0 ∨ i = 1 ∨ i = 2 ∨ i = 3 ∨ i = 4 ∨ i = 5 ∨ i = 6 ∨ i = 7 := by omega
  rcases this with rfl | rfl | rfl | rfl | rfl | rfl | rfl | rfl <;> decide
theorem leaves_ev (n : Int) (st : Store) : f_l_leaves [.int n, .int 8] st = .ok (tS (lvS n)) st := by
  have hc : compL (tgN 3) (tst (D.bin eq2 (D.bin mod2 (D.bin fdiv2 (var 0) (D.bin shl2 (cst (.int 1)) (var 3))) (cst (.int 2))) (cst (.int 1)))) (D.bin ix2 (var 2) (var 3)) ((List.range 8).map fun i => U.int (i : Nat)) [.val (.int n), .val (.int 8), .val (lS lmS), .un] st = .ok ((lvS n).map U.str) st := by
    unfold lvS
    rw [List.map_map]
    refine comp_filterM (List.range 8) fun i hi => ?_
    have hi := List.mem_range.mp hi
    have h1 := lm_at i hi
    obtain ⟨h2, h3⟩ := two_pow i hi
    have h4 : (0 : Int) ≤ (i : Int) ∧ (i : Int) ≤ 1000000 := by omega
    generalize lS lmS = m at h1
    refine ⟨_, rfl, ?_, fun _ => ?_⟩
    · simp [shl2, h4, fdiv2, h2, h3, mod2]
    · simp [h1]
  have h10 : sl3 (lS lmS) none (some 8) = some (lS lmS) := rfl
  have hl : lenN [lS lmS] = some (.int 8) := rfl
  have hm := lm_ev st
  generalize lS lmS = m at *
  have hr' : rng1 [U.int 8] = some ((List.range 8).map fun i => U.int (i : Nat)) := rng1_nat 8 (by decide)
  unfold f_l_leaves b_l_leaves
  simp [hm, h10, hl, hr', wipeE]
  simp [hc]
def locsS : List Str := [Str.ofString "x", Str.ofString "f", Str.ofString "y", Str.ofString "set", Str.ofString "a", Str.ofString "pay"]
def locS (n : Int) : Str := locsS.getD (n % 6).toNat Str.empty
theorem locs_words : ∀ w ∈ locsS, isWordS w = true := by decide +kernel
theorem loc_mem (n : Int) : locS n ∈ locsS := by
  have h0 := Int.emod_nonneg n (b := 6) (by decide)
  have h6 := Int.emod_lt_of_pos n (b := 6) (by decide)
  unfold locS
  have hl : (n % 6).toNat < locsS.length := by show _ < 6; omega
  rw [List.getD_eq_getElem?_getD, List.getElem?_eq_getElem hl]
  exact List.getElem_mem hl
theorem loc_word (n : Int) : isWordS (locS n) = true := locs_words _ (loc_mem n)
theorem local_ev (n : Int) (st : Store) : f_l_local [.int n] st = .ok (.str (locS n)) st := by
  have h0 := Int.emod_nonneg n (b := 6) (by decide)
  have h6 := Int.emod_lt_of_pos n (b := 6) (by decide)
  have e : atI (locsS.map U.str) (n % 6) = some (.str (locS n)) := by
    obtain ⟨m, hm⟩ := Int.eq_ofNat_of_zero_le h0
    have hm6 : m < 6 := by omega
    unfold locS
    rw [hm]
    show atI _ ((m : Nat) : Int) = _
    rw [atI_cast, List.getElem?_map, List.getElem?_eq_getElem (show m < locsS.length from hm6)]
    simp only [Option.map_some]
    rw [show ((m : Int)).toNat = m from rfl, List.getD_eq_getElem?_getD, List.getElem?_eq_getElem (show m < locsS.length from hm6)]
    rfl
  simp only [locsS, List.map_cons, List.map_nil] at e
  unfold f_l_local b_l_local
  simp [e]
def argS (d : Int) (n : Nat) : List Str := (List.range n).map fun k => locS (d / ([1, 6, 36, 216].getD k 1))
theorem args_ev (d : Int) (n : Nat) (h : n ≤ 4) (st : Store) : f_l_args [.int d, .int (n : Int)] st = .ok (tS (argS d n)) st := by
  have hr : rng1 [.int (n : Int)] = some ((List.range n).map fun i => U.int (i : Nat)) := rng1_nat n (by omega)
  have hc : compL (tgN 2) yesT (appU f_l_local (acons (bin fdiv2 (var 0) (bin ix2 (appN szL (acons (cst (.int 1)) (acons (cst (.int 6)) (acons (cst (.int 36)) (acons (cst (.int 216)) anil))))) (var 2))) anil)) ((List.range n).map fun i => U.int (i : Nat)) [.val (.int d), .val (.int (n : Int)), .un] st = .ok ((List.range n).map fun k => U.str (locS (d / ([1, 6, 36, 216].getD k 1)))) st :=
    comp_allM (List.range n) fun k hk => ⟨_, rfl, by
      have hk := List.mem_range.mp hk
      have : k = 0 ∨ k = 1 ∨ k = 2 ∨ k = 3 := by omega
      rcases this with rfl | rfl | rfl | rfl
      · have := local_ev (d / 1) st; simp at this ⊢; exact this
      · simp [local_ev]
      · simp [local_ev]
      · simp [local_ev]⟩
  have hn : n ≤ 16777216 := by omega
  unfold f_l_args b_l_args
  simp [hr, hn, wipeE, hc]
  simp [argS]
theorem arg_ok (d : Int) (n : Nat) (h : n ≤ 4) : argsS (argS d n) = true := by
  unfold argsS argS
  rw [Bool.and_eq_true, List.all_eq_true]
  refine ⟨by simpa using h, fun w hw => ?_⟩
  obtain ⟨k, _, rfl⟩ := List.mem_map.mp hw
  exact loc_word _
theorem args_sub {as bs : List Str} (h : bs.Sublist as) (ha : argsS as = true) : argsS bs = true := by
  unfold argsS at ha ⊢
  simp only [Bool.and_eq_true, decide_eq_true_eq, List.all_eq_true] at ha ⊢
  exact ⟨Nat.le_trans h.length_le ha.1, fun w hw => ha.2 w (h.subset hw)⟩
end G1
namespace G1
open PySem L2 D C
theorem drop_take_map (ds : List Int) (m n : Nat) (h : m + n ≤ ds.length) : (ds.drop m).take n = (List.range n).map fun i => ds.getD (m + i) 0 := by
  apply List.ext_getElem?
  intro i
  rw [List.getElem?_take, List.getElem?_map]
  by_cases hi : i < n
  · rw [if_pos hi, List.getElem?_drop, List.getElem?_range hi, List.getElem?_eq_getElem (by omega)]
    simp [List.getD_eq_getElem?_getD, List.getElem?_eq_getElem (show m + i < ds.length by omega)]
  · rw [if_neg hi, List.getElem?_eq_none (by simp; omega)]
    rfl
theorem cut_ints (ds : List Int) (m n : Nat) (a b : Int) (ha : a = (m : Int)) (hb : b = ((m + n : Nat) : Int)) (h : m + n ≤ ds.length) : cutL (ds.map U.int) (some a) (some b) = (List.range n).map fun i => U.int (ds.getD (m + i) 0) := by
  subst ha; subst hb
  rw [cutL_mid, ← List.map_drop, ← List.map_take, show m + n - m = n by omega, drop_take_map ds m n h, List.map_map]
  rfl
theorem digits (ds sizes : List Int) (hb : ∀ (i : Nat) (s d : Int), sizes[i]? = some s → ds[i]? = some d → 0 ≤ d ∧ d < s) (hl : ds.length = sizes.length) (i : Nat) (s : Int) (hs : sizes[i]? = some s) : 0 ≤ ds.getD i 0 ∧ ds.getD i 0 < s := by
  have hi : i < ds.length := by rw [hl]; exact (List.getElem?_eq_some_iff.mp hs).1
  have := hb i s ds[i] hs (List.getElem?_eq_getElem hi)
  rw [List.getD_eq_getElem?_getD, List.getElem?_eq_getElem hi]
  exact this
/-! ### heads -/
structure Hd where
  name : Str
  own : List Str
  params : List Str
def Hd.u (h : Hd) : U := .tup [.str h.name, tS h.own, tS h.params]
structure HOk (h : Hd) : Prop where
  name : isWordS h.name = true
  own : h.own.Sublist lmS
  params : argsS h.params = true
  nodup : (dedS h.params).length = h.params.length
def hnS : List Str := [Str.ofString "main", Str.ofString "f", Str.ofString "pay", Str.ofString "x", Str.ofString "gate", Str.ofString "h", Str.ofString "call", Str.ofString "zz"]
theorem hn_words : ∀ w ∈ hnS, isWordS w = true := by decide +kernel
theorem hn_nodup : hnS.Nodup := by decide +kernel
def hdOf (ds : List Int) (i : Nat) : Hd := ⟨hnS.getD ((ds.getD 1 0 + (i : Int) * (2 * ds.getD 2 0 + 1)) % 8).toNat Str.empty, lvS (ds.getD (3 + 3 * i) 0), (List.range (ds.getD (4 + 3 * i) 0).toNat).map fun (k : Nat) => locS (ds.getD (5 + 3 * i) 0 + (k : Int))⟩
def hSz : List Int := [4, 8, 4, 256, 3, 6, 256, 3, 6, 256, 3, 6, 256, 3, 6]
theorem hd_ok (ds : List Int) (hl : ds.length = hSz.length) (hb : ∀ (i : Nat) (s d : Int), hSz[i]? = some s → ds[i]? = some d → 0 ≤ d ∧ d < s) (i : Nat) (hi : i < 4) : HOk (hdOf ds i) := by
  have b4 := digits ds hSz hb hl (4 + 3 * i) 3 (by have : i = 0 ∨ i = 1 ∨ i = 2 ∨ i = 3 := by omega
                                                   rcases this with rfl | rfl | rfl | rfl <;> rfl)
  have b5 := digits ds hSz hb hl (5 + 3 * i) 6 (by have : i = 0 ∨ i = 1 ∨ i = 2 ∨ i = 3 := by omega
                                                   rcases this with rfl | rfl | rfl | rfl <;> rfl)
  refine ⟨?_, lv_sub _, ?_, ?_⟩
  · refine hn_words _ ?_
    have h0 := Int.emod_nonneg (ds.getD 1 0 + (i : Int) * (2 * ds.getD 2 0 + 1)) (b := 8) (by decide)
    have h8 := Int.emod_lt_of_pos (ds.getD 1 0 + (i : Int) * (2 * ds.getD 2 0 + 1)) (b := 8) (by decide)
    have hl : ((ds.getD 1 0 + (i : Int) * (2 * ds.getD 2 0 + 1)) % 8).toNat < hnS.length := by show _ < 8; omega
    show hnS.getD _ _ ∈ hnS
    rw [List.getD_eq_getElem?_getD, List.getElem?_eq_getElem hl]
    exact List.getElem_mem hl
  · unfold argsS hdOf
    rw [Bool.and_eq_true, List.all_eq_true]
    refine ⟨by simp only [List.length_map, List.length_range, decide_eq_true_eq]; omega, fun w hw => ?_⟩
    obtain ⟨k, _, rfl⟩ := List.mem_map.mp hw
    exact loc_word _
  · show (dedS ((List.range (ds.getD (4 + 3 * i) 0).toNat).map fun (k : Nat) => locS (ds.getD (5 + 3 * i) 0 + (k : Int)))).length = ((List.range (ds.getD (4 + 3 * i) 0).toNat).map fun (k : Nat) => locS (ds.getD (5 + 3 * i) 0 + (k : Int))).length
    generalize ds.getD (4 + 3 * i) 0 = a at b4
    generalize ds.getD (5 + 3 * i) 0 = t at b5
    have ha : a = 0 ∨ a = 1 ∨ a = 2 := by omega
    have htt : t = 0 ∨ t = 1 ∨ t = 2 ∨ t = 3 ∨ t = 4 ∨ t = 5 := by omega
    rcases ha with rfl | rfl | rfl
    · rfl
    · rcases htt with rfl | rfl | rfl | rfl | rfl | rfl <;> decide +kernel
    · rcases htt with rfl | rfl | rfl | rfl | rfl | rfl <;> decide +kernel
theorem hd_names (ds : List Int) (hl : ds.length = hSz.length) (hb : ∀ (i : Nat) (s d : Int), hSz[i]? = some s → ds[i]? = some d → 0 ≤ d ∧ d < s) (n : Nat) (hn : n ≤ 4) : (((List.range n).map (hdOf ds)).map Hd.name).Nodup := by
  have b1 := digits ds hSz hb hl 1 8 rfl
  have b2 := digits ds hSz hb hl 2 4 rfl
  rw [List.map_map]
  rw [List.Nodup, List.pairwise_map]
  refine List.Pairwise.imp_of_mem (fun {i j} hi hj hlt e => ?_) List.pairwise_lt_range
  have hi := List.mem_range.mp hi
  have hj := List.mem_range.mp hj
  have e : hnS.getD ((ds.getD 1 0 + (i : Int) * (2 * ds.getD 2 0 + 1)) % 8).toNat Str.empty = hnS.getD ((ds.getD 1 0 + (j : Int) * (2 * ds.getD 2 0 + 1)) % 8).toNat Str.empty := e
  generalize ds.getD 1 0 = d1 at *
  generalize ds.getD 2 0 = d2 at *
  have h8 : ∀ z : Int, (z % 8).toNat < hnS.length := fun z => by
    have := Int.emod_lt_of_pos z (b := 8) (by decide)
    show _ < 8
    omega
  have inj : ∀ x y : Nat, x < hnS.length → y < hnS.length → hnS.getD x Str.empty = hnS.getD y Str.empty → x = y := fun x y hx hy q => by
    rw [List.getD_eq_getElem?_getD, List.getD_eq_getElem?_getD, List.getElem?_eq_getElem hx, List.getElem?_eq_getElem hy] at q
    exact (List.getElem_inj hn_nodup).mp q
  have e := inj _ _ (h8 _) (h8 _) e
  have hd2 : d2 = 0 ∨ d2 = 1 ∨ d2 = 2 ∨ d2 = 3 := by omega
  have hij : (i = 0 ∧ j = 1) ∨ (i = 0 ∧ j = 2) ∨ (i = 0 ∧ j = 3) ∨ (i = 1 ∧ j = 2) ∨ (i = 1 ∧ j = 3) ∨ (i = 2 ∧ j = 3) := by omega
  rcases hd2 with rfl | rfl | rfl | rfl <;> rcases hij with ⟨rfl, rfl⟩ | ⟨rfl, rfl⟩ | ⟨rfl, rfl⟩ | ⟨rfl, rfl⟩ | ⟨rfl, rfl⟩ | ⟨rfl, rfl⟩ <;> omega
theorem hn_at (z : Int) : atI (hnS.map U.str) (z % 8) = some (.str (hnS.getD (z % 8).toNat Str.empty)) := by
  have h0 := Int.emod_nonneg z (b := 8) (by decide)
  have h8 := Int.emod_lt_of_pos z (b := 8) (by decide)
  obtain ⟨m, hm⟩ := Int.eq_ofNat_of_zero_le h0
  have hm8 : m < hnS.length := by show m < 8; omega
  rw [hm]
  show atI _ ((m : Nat) : Int) = _
  rw [atI_cast, List.getElem?_map, List.getElem?_eq_getElem hm8, show ((m : Nat) : Int).toNat = m from rfl, List.getD_eq_getElem?_getD, List.getElem?_eq_getElem hm8]
  rfl
set_option maxHeartbeats 4000000 in
theorem heads_ev (c : Int) (st : Store) : ∃ (ds : List Int) (n : Nat), f_l_heads [.int c, .int 4, .int 8] st = .ok (.lst (((List.range n).map (hdOf ds)).map Hd.u)) st ∧ 1 ≤ n ∧ n ≤ 4 ∧ ds.length = hSz.length ∧ ∀ (i : Nat) (s d : Int), hSz[i]? = some s → ds[i]? = some d → 0 ≤ d ∧ d < s := by
  obtain ⟨ds, e1, hl, hb⟩ := C.numbers_ok c hSz (by decide) (by decide) st
  have e1' : f_l_numbers [.int c, .lst (hSz.map U.int)] st = .ok (.lst (ds.map .int)) st := e1
  have b0 := digits ds hSz hb hl 0 4 rfl
  have b1 := digits ds hSz hb hl 1 8 rfl
  have b2 := digits ds hSz hb hl 2 4 rfl
  obtain ⟨m, hm⟩ := Int.eq_ofNat_of_zero_le b0.1
  have hm' : ds.getD 0 0 = (m : Int) := hm
  have hm4 : m < 4 := by omega
  have hl15 : ds.length = 15 := hl
  refine ⟨ds, m + 1, ?_, by omega, by omega, hl, hb⟩
  have i0 : atI (ds.map U.int) 0 = some (.int (ds.getD 0 0)) := by
    rw [show (0 : Int) = ((0 : Nat) : Int) from rfl, atI_cast, List.getElem?_map, List.getD_eq_getElem?_getD, List.getElem?_eq_getElem (by omega)]; rfl
  have i1 : atI (ds.map U.int) 1 = some (.int (ds.getD 1 0)) := by
    rw [show (1 : Int) = ((1 : Nat) : Int) from rfl, atI_cast, List.getElem?_map, List.getD_eq_getElem?_getD, List.getElem?_eq_getElem (by omega)]; rfl
  have i2 : atI (ds.map U.int) 2 = some (.int (ds.getD 2 0)) := by
    rw [show (2 : Int) = ((2 : Nat) : Int) from rfl, atI_cast, List.getElem?_map, List.getD_eq_getElem?_getD, List.getElem?_eq_getElem (by omega)]; rfl
  have sl : ∀ k : Nat, k < 4 → cutL (ds.map U.int) (some (3 + 3 * (k : Int))) (some (6 + 3 * (k : Int))) = [.int (ds.getD (3 + 3 * k) 0), .int (ds.getD (4 + 3 * k) 0), .int (ds.getD (5 + 3 * k) 0)] := fun k hk => by
    rw [cut_ints ds (3 + 3 * k) 3 _ _ (by omega) (by omega) (by omega)]
    show [U.int (ds.getD (3 + 3 * k + 0) 0), U.int (ds.getD (3 + 3 * k + 1) 0), U.int (ds.getD (3 + 3 * k + 2) 0)] = _
    rw [show 3 + 3 * k + 1 = 4 + 3 * k by omega, show 3 + 3 * k + 2 = 5 + 3 * k by omega]
    rfl
  obtain ⟨env', he, hI⟩ := for_rng (j := 6) (b := t1_l_heads) (st := st) (m + 1) (fun k env => ∃ s6 s7 s8 s9 s10 s11, env = [.val (.int c), .val (.int 4), .val (.int 8), .val (.lst (ds.map U.int)), .val (.lst (hnS.map U.str)), .own (((List.range k).map (hdOf ds)).map Hd.u), s6, s7, s8, s9, s10, s11, .un])
    (env := [.val (.int c), .val (.int 4), .val (.int 8), .val (.lst (ds.map U.int)), .val (.lst (hnS.map U.str)), .own [], .un, .un, .un, .un, .un, .un, .un]) ⟨_, _, _, _, _, _, rfl⟩ (fun k env hk hI => by
      obtain ⟨s6, s7, s8, s9, s10, s11, rfl⟩ := hI
      have hk4 : k < 4 := by omega
      have b4 := digits ds hSz hb hl (4 + 3 * k) 3 (by have : k = 0 ∨ k = 1 ∨ k = 2 ∨ k = 3 := by omega
                                                       rcases this with rfl | rfl | rfl | rfl <;> rfl)
      obtain ⟨p, hp⟩ := Int.eq_ofNat_of_zero_le b4.1
      have hp' : ds.getD (4 + 3 * k) 0 = (p : Int) := hp
      have hr : rng1 [.int (ds.getD (4 + 3 * k) 0)] = some ((List.range p).map fun i => U.int (i : Nat)) := by rw [hp']; exact rng1_nat p (by omega)
      have e2 := leaves_ev (ds.getD (3 + 3 * k) 0) st
      have e3 := hn_at (ds.getD 1 0 + (k : Int) * (2 * ds.getD 2 0 + 1))
      have hc : compL (tgN 12) yesT (appU f_l_local (acons (bin add2 (var 11) (var 12)) anil)) ((List.range p).map fun i => U.int (i : Nat)) [.val (.int c), .val (.int 4), .val (.int 8), .val (.lst (ds.map U.int)), .val (.lst (hnS.map U.str)), .own (((List.range k).map (hdOf ds)).map Hd.u), .val (.int (k : Int)), .val (.str (hdOf ds k).name), s8, .val (.int (ds.getD (3 + 3 * k) 0)), .val (.int (ds.getD (4 + 3 * k) 0)), .val (.int (ds.getD (5 + 3 * k) 0)), .un] st = .ok ((List.range p).map fun (i : Nat) => U.str (locS (ds.getD (5 + 3 * k) 0 + (i : Int)))) st :=
        comp_allM (List.range p) fun i hi => ⟨_, rfl, by simp [local_ev]⟩
      have hp1 : p ≤ 16777216 := by omega
      have hpar : (hdOf ds k).params = (List.range p).map fun (i : Nat) => locS (ds.getD (5 + 3 * k) 0 + (i : Int)) := by
        show (List.range (ds.getD (4 + 3 * k) 0).toNat).map _ = _
        rw [hp']; rfl
      have sl' := sl k hk4
      have tg : ∀ a b c : U, tgA [9, 10, 11] (.lst [a, b, c]) = some [(9, a), (10, b), (11, c)] := fun _ _ _ => rfl
      have hnm : (hdOf ds k).name = hnS.getD ((ds.getD 1 0 + (k : Int) * (2 * ds.getD 2 0 + 1)) % 8).toNat Str.empty := rfl
      have hu : (hdOf ds k).u = .tup [.str (hdOf ds k).name, tS (lvS (ds.getD (3 + 3 * k) 0)), .tup ((List.range p).map fun (i : Nat) => U.str (locS (ds.getD (5 + 3 * k) 0 + (i : Int))))] := by
        unfold Hd.u
        rw [hpar]
        unfold tS
        rw [List.map_map]
        rfl
      rw [← hnm] at e3
      generalize (hdOf ds k).name = nm at *
      have lk : (((List.range k).map (hdOf ds)).map Hd.u).length < 16777216 := by simp; omega
      refine ⟨[.val (.int c), .val (.int 4), .val (.int 8), .val (.lst (ds.map U.int)), .val (.lst (hnS.map U.str)), .own (((List.range (k + 1)).map (hdOf ds)).map Hd.u), .val (.int (k : Int)), .val (.str nm), .val (.tup ((List.range p).map fun (i : Nat) => U.str (locS (ds.getD (5 + 3 * k) 0 + (i : Int))))), .val (.int (ds.getD (3 + 3 * k) 0)), .val (.int (ds.getD (4 + 3 * k) 0)), .val (.int (ds.getD (5 + 3 * k) 0)), .un], .inl ?_, _, _, _, _, _, _, rfl⟩
      have lst : ((List.range (k + 1)).map (hdOf ds)).map Hd.u = ((List.range k).map (hdOf ds)).map Hd.u ++ [(hdOf ds k).u] := by
        rw [List.range_succ, List.map_append, List.map_append]; rfl
      rw [lst, hu]
      unfold t1_l_heads
      generalize ((List.range k).map (hdOf ds)).map Hd.u = acc at *
      generalize ds.map U.int = dU at *
      generalize hnS.map U.str = hU at *
      simp only [tS] at e2
      have sm : smallI 3 = true := by rw [smallI_lit]; decide
      have sm2 : smallI 2 = true := by rw [smallI_lit]; decide
      have sm8 : smallI (2 * ds.getD 2 0 + 1) = true := by rw [smallI_lit]; simp only [decide_eq_true_eq]; omega
      simp [sm, sm2, sm8, sUnp, sl', tg, i1, i2, e3, hr, hp1, wipeE, hc, e2, lk, -cutL_mid', -atI_lit, -List.getD_eq_getElem?_getD])
  obtain ⟨s6, s7, s8, s9, s10, s11, rfl⟩ := hI
  have hr : rng1 [.int (1 + ds.getD 0 0)] = some ((List.range (m + 1)).map fun i => U.int (i : Nat)) := by
    rw [hm', show (1 + (m : Int)) = ((m + 1 : Nat) : Int) by omega]
    exact rng1_nat (m + 1) (by omega)
  have m4 : mul2 (.lst [.int 256, .int 3, .int 6]) (.int 4) = some (.lst [.int 256, .int 3, .int 6, .int 256, .int 3, .int 6, .int 256, .int 3, .int 6, .int 256, .int 3, .int 6]) := rfl
  unfold f_l_heads b_l_heads
  simp only [hnS, List.map_cons, List.map_nil] at he
  simp only [hSz, List.map_cons, List.map_nil] at e1'
  generalize ds.map U.int = dU at *
  generalize ((List.range (m + 1)).map (hdOf ds)).map Hd.u = acc at *
  simp [m4, e1', i0, hr, he, frzE, frz1, -atI_lit, -List.getD_eq_getElem?_getD]
end G1
namespace G1
open PySem L2 D C
/-! ### steps -/
def preOk : Row → Bool
  | .skip a k => isWordS a && decide (0 ≤ k)
  | .over k => decide (0 ≤ k)
  | .ask w k => isWordS w && decide (0 ≤ k)
  | r => r.ok
def Pre (r : Row) : Prop := preOk r = true ∧ ∀ w ∈ r.leaves, w ∈ lmS
theorem pow18 : pow2 (.int 10) (.int 18) = some (.int 1000000000000000000) := by simp [pow2]
theorem f_word : isWordS (Str.ofString "f") = true := by decide +kernel
theorem head_at (hs : List Hd) (h : hs ≠ []) (d : Int) : ∃ x ∈ hs, atI (hs.map Hd.u) (d % (hs.length : Int)) = some x.u := by
  have hp : 0 < hs.length := List.length_pos_iff.mpr h
  obtain ⟨x, hx, e⟩ := pick hs (d % (hs.length : Int)) (Int.emod_nonneg _ (by omega)) (Int.emod_lt_of_pos _ (by omega))
  exact ⟨x, hx, atI_map Hd.u e⟩
theorem vouch_ev (d4 d5 : Int) (st : Store) : ∃ vs : List Str, vs.Sublist lmS ∧ ∃ n : Int, atI [U.int 0, U.int d4] (d5 % 2) = some (.int n) ∧ f_l_leaves [.int n, .int 8] st = .ok (tS vs) st := by
  have : d5 % 2 = 0 ∨ d5 % 2 = 1 := by omega
  rcases this with h | h
  · exact ⟨lvS 0, lv_sub _, 0, by rw [h]; rfl, leaves_ev 0 st⟩
  · exact ⟨lvS d4, lv_sub _, d4, by rw [h]; rfl, leaves_ev d4 st⟩
set_option maxHeartbeats 4000000 in
theorem calls_ok (hs : List Hd) (h0 : hs ≠ []) (hh : ∀ h ∈ hs, HOk h) (d0 d1 d2 d3 d4 d5 d6 : Int) (st : Store) :
    ∃ rows : List Row, f_l_calls [.lst [.int d0, .int d1, .int d2, .int d3, .int d4, .int d5, .int d6], .lst (hs.map Hd.u), .int 8] st = .ok (.lst (rows.map Row.u)) st ∧ 1 ≤ rows.length ∧ rows.length ≤ 2 ∧ ∀ r ∈ rows, Pre r := by
  obtain ⟨x, hx, ex⟩ := head_at hs h0 d1
  have ox := hh x hx
  have lp : x.params.length ≤ 4 := args_len ox.params
  have hpos : 0 < hs.length := List.length_pos_iff.mpr h0
  obtain ⟨vs, sv, n, ev, lv⟩ := vouch_ev d4 d5 st
  have ea := args_ev d3 x.params.length lp st
  have oa := arg_ok d3 x.params.length lp
  generalize argS d3 x.params.length = as at ea oa
  obtain ⟨a, ha⟩ := Int.eq_ofNat_of_zero_le (Int.emod_nonneg d2 (b := (x.params.length : Int) + 1) (by omega))
  have ha' : d2 % ((x.params.length : Int) + 1) = (a : Int) := ha
  have hp1 : (0 : Int) < (x.params.length : Int) + 1 := by omega
  have hu : x.u = .tup [.str x.name, tS x.own, tS x.params] := rfl
  have tg : tgA [7, 8, 9] x.u = some [(7, .str x.name), (8, tS x.own), (9, tS x.params)] := rfl
  have e6 := local_ev d6 st
  have o1 : Pre (.hold (Str.ofString "f") x.name (as.take a)) := ⟨by
    show (isWordS _ && isWordS _ && argsS _) = true
    rw [f_word, ox.name, args_sub (List.take_sublist _ _) oa]; rfl, fun w hw => nomatch hw⟩
  have ov := sub_leaves sv
  have od := args_sub (List.drop_sublist a as) oa
  by_cases q : d0 = 6
  · refine ⟨[.hold (Str.ofString "f") x.name (as.take a), .last (Str.ofString "f") (as.drop a) vs], ?_, by simp, by simp, ?_⟩
    · unfold f_l_calls b_l_calls
      simp only [tS] at ea lv tg
      simp [hpos, ex, sUnp, tg, hp1, ha', ea, ev, lv, q, Row.u]
    · intro r hr
      simp only [List.mem_cons, List.not_mem_nil, or_false] at hr
      rcases hr with rfl | rfl
      · exact o1
      · exact ⟨by show (isWordS _ && argsS _ && leavesS _) = true; rw [f_word, od, ov]; rfl, fun w hw => sv.subset hw⟩
  · refine ⟨[.hold (Str.ofString "f") x.name (as.take a), .call (locS d6) (Str.ofString "f") (as.drop a) vs], ?_, by simp, by simp, ?_⟩
    · unfold f_l_calls b_l_calls
      simp only [tS] at ea lv tg
      simp [hpos, ex, sUnp, tg, hp1, ha', ea, ev, lv, q, e6, Row.u]
    · intro r hr
      simp only [List.mem_cons, List.not_mem_nil, or_false] at hr
      rcases hr with rfl | rfl
      · exact o1
      · exact ⟨by show (isWordS _ && isWordS _ && argsS _ && leavesS _) = true; rw [f_word, loc_word, od, ov]; rfl, fun w hw => sv.subset hw⟩
theorem in_ints (i : Int) (ns : List Int) : in2 (.int i) (.tup (ns.map U.int)) = some (.bl (decide (i ∈ ns))) := by
  have h1 : (ns.map U.int).all flatU = true := by rw [List.all_eq_true]; intro u hu; obtain ⟨n, _, rfl⟩ := List.mem_map.mp hu; rfl
  show (if flatU (.int i) && (ns.map U.int).all flatU then some (U.bl ((ns.map U.int).any fun y => eqU y (.int i))) else none) = _
  rw [h1]
  have h2 : ((ns.map U.int).any fun y => D.eqU y (.int i)) = decide (i ∈ ns) := by
    clear h1
    induction ns with
    | nil => rfl
    | cons n ns ih =>
      rw [List.map_cons, List.any_cons, ih]
      have : D.eqU (.int n) (.int i) = decide (n = i) := by
        unfold D.eqU pd PyData.eqv
        by_cases q : n = i <;> simp [q]
      rw [this]
      by_cases q : i = n
      · simp [q]
      · have q' : n ≠ i := fun e => q e.symm
        simp [q, q']
  rw [h2]; rfl
theorem word_at (d : Int) : ∃ w ∈ lmS, atI (lmS.map U.str) (d % 8) = some (.str w) := by
  obtain ⟨x, hx, e⟩ := pick_mod lmS d 8 (by decide) (by decide)
  exact ⟨x, hx, atI_map U.str e⟩
theorem cell_at (d : Int) : ∃ w, isWordS w = true ∧ atI [U.str (Str.ofString "c"), U.str (Str.ofString "x"), U.str (Str.ofString "kk")] (d % 3) = some (.str w) := by
  obtain ⟨x, hx, e⟩ := pick_mod [Str.ofString "c", Str.ofString "x", Str.ofString "kk"] d 3 (by decide) (by decide)
  have hw : ∀ x ∈ [Str.ofString "c", Str.ofString "x", Str.ofString "kk"], isWordS x = true := by decide +kernel
  exact ⟨x, hw x hx, atI_map U.str e⟩
def Steps (o : Rs U) (st : Store) : Prop := ∃ rows : List Row, o = .ok (.lst (rows.map Row.u)) st ∧ 1 ≤ rows.length ∧ rows.length ≤ 2 ∧ ∀ r ∈ rows, Pre r
theorem Steps.one {o : Rs U} {st : Store} (r : Row) (h : o = .ok (.lst [r.u]) st) (hp : Pre r) : Steps o st := ⟨[r], h, by simp, by simp, fun x hx => by rw [List.mem_singleton] at hx; subst hx; exact hp⟩
set_option maxHeartbeats 8000000 in
theorem step_ok (hs : List Hd) (h0 : hs ≠ []) (hh : ∀ h ∈ hs, HOk h) (d0 d1 d2 d3 d4 d5 d6 : Int) (b0 : 0 ≤ d0 ∧ d0 < 16) (b4 : 0 ≤ d4 ∧ d4 < 256) (b5 : 0 ≤ d5 ∧ d5 < 60) (st : Store) :
    Steps (f_l_step [.lst [.int d0, .int d1, .int d2, .int d3, .int d4, .int d5, .int d6], .lst (hs.map Hd.u), .int 8] st) st := by
  have hc : ∀ s3 s4 s5 s6 s7 : Sl, compL (tgN 8) yesT (appU f_l_local (acons (bin ix2 (var 0) (var 8)) anil)) ([1, 2, 3].map U.int) [.val (.lst [.int d0, .int d1, .int d2, .int d3, .int d4, .int d5, .int d6]), .val (.lst (hs.map Hd.u)), .val (.int 8), s3, s4, s5, s6, s7, .un] st = .ok [.str (locS d1), .str (locS d2), .str (locS d3)] st := fun s3 s4 s5 s6 s7 => by
    simp [comp_cons, comp_nil, local_ev]
  have rg : rng2 [.int 1, .int 4] = some ([1, 2, 3].map U.int) := rfl
  have tg : ∀ a b c : U, tgA [5, 6, 7] (.lst [a, b, c]) = some [(5, a), (6, b), (7, c)] := fun _ _ _ => rfl
  have lm := lm_ev st
  obtain ⟨w, hw, ew⟩ := word_at d4
  have ww := lm_words w hw
  have lmt : (lmS.map U.str).take 8 = lmS.map U.str := rfl
  have w1 := loc_word d1
  have w2 := loc_word d2
  have w3 := loc_word d3
  have hpos : 0 < hs.length := List.length_pos_iff.mpr h0
  have i23 := in_ints d0 [2, 3]
  have i456 := in_ints d0 [4, 5, 6]
  simp only [List.map_cons, List.map_nil, List.mem_cons, List.not_mem_nil, or_false] at i23 i456 hc rg
  simp only [lS] at lm
  generalize lmS.map U.str = mU at *
  unfold f_l_step b_l_step
  have way : d0 = 0 ∨ d0 = 1 ∨ d0 = 2 ∨ d0 = 3 ∨ d0 = 4 ∨ d0 = 5 ∨ d0 = 6 ∨ d0 = 7 ∨ d0 = 8 ∨ d0 = 9 ∨ d0 = 10 ∨ d0 = 11 ∨ d0 = 12 ∨ d0 = 13 ∨ d0 = 14 ∨ d0 = 15 := by omega
  have emp : ∀ w ∈ ([] : List Str), w ∈ lmS := fun _ h => nomatch h
  have one : ∀ x ∈ [w], x ∈ lmS := fun x hx => by rw [List.mem_singleton] at hx; subst hx; exact hw
  rcases way with rfl | rfl | rfl | rfl | rfl | rfl | rfl | rfl | rfl | rfl | rfl | rfl | rfl | rfl | rfl | rfl
  · obtain ⟨n, hn, en⟩ := pick_mod [(0 : Int), 1, -1, 2, 1000000000000000000, -1000000000000000000, d4, d5] d5 8 rfl (by decide)
    have en := atI_map U.int en
    simp only [List.map_cons, List.map_nil] at en
    refine Steps.one (.set (locS d1) n) ?_ ⟨?_, emp⟩
    · simp [rg, wipeE, hc, sUnp, tg, lm, lmt, ew, pow18, en, Row.u]
    · show (isWordS _ && okN n) = true
      rw [w1, Bool.true_and]
      unfold okN
      simp only [List.mem_cons, List.not_mem_nil, or_false] at hn
      rw [decide_eq_true_eq]
      omega
  · refine Steps.one (.same (locS d1) (locS d2)) ?_ ⟨by simp [preOk, Row.ok, w1, w2], emp⟩
    simp [rg, wipeE, hc, sUnp, tg, lm, lmt, ew, Row.u]
  · refine Steps.one (.sum (locS d1) (locS d2) (locS d3)) ?_ ⟨by simp [preOk, Row.ok, w1, w2, w3], emp⟩
    simp [rg, wipeE, hc, sUnp, tg, lm, lmt, ew, i23, Row.u]
  · refine Steps.one (.less (locS d1) (locS d2) (locS d3)) ?_ ⟨by simp [preOk, Row.ok, w1, w2, w3], emp⟩
    simp [rg, wipeE, hc, sUnp, tg, lm, lmt, ew, i23, Row.u]
  · obtain ⟨rows, e, l1, l2, hr⟩ := calls_ok hs h0 hh 4 d1 d2 d3 d4 d5 d6 st
    exact ⟨rows, by simp [rg, wipeE, hc, sUnp, tg, lm, lmt, ew, i23, i456, e], l1, l2, hr⟩
  · obtain ⟨rows, e, l1, l2, hr⟩ := calls_ok hs h0 hh 5 d1 d2 d3 d4 d5 d6 st
    exact ⟨rows, by simp [rg, wipeE, hc, sUnp, tg, lm, lmt, ew, i23, i456, e], l1, l2, hr⟩
  · obtain ⟨rows, e, l1, l2, hr⟩ := calls_ok hs h0 hh 6 d1 d2 d3 d4 d5 d6 st
    exact ⟨rows, by simp [rg, wipeE, hc, sUnp, tg, lm, lmt, ew, i23, i456, e], l1, l2, hr⟩
  · obtain ⟨x, hx, ex⟩ := head_at hs h0 d4
    have ox := hh x hx
    obtain ⟨a, ha⟩ := Int.eq_ofNat_of_zero_le (Int.emod_nonneg d5 (b := 5) (by decide))
    have ha5 : d5 % 5 < 5 := Int.emod_lt_of_pos _ (by decide)
    have ha' : d5 % 5 = (a : Int) := ha
    have ea := args_ev d3 a (by omega) st
    have oa := arg_ok d3 a (by omega)
    have hu0 : ix2 x.u (.int 0) = some (.str x.name) := rfl
    refine Steps.one (.hold (locS d1) x.name (argS d3 a)) ?_ ⟨by simp [preOk, Row.ok, w1, ox.name, oa], emp⟩
    simp only [tS] at ea
    simp [rg, wipeE, hc, sUnp, tg, lm, lmt, ew, i23, i456, hpos, ex, hu0, ha', ea, Row.u]
  · obtain ⟨c, hcw, ec⟩ := cell_at d5
    refine Steps.one (.keep c (locS d1)) ?_ ⟨by simp [preOk, Row.ok, w1, hcw], emp⟩
    simp [rg, wipeE, hc, sUnp, tg, lm, lmt, ew, i23, i456, ec, Row.u]
  · obtain ⟨c, hcw, ec⟩ := cell_at d5
    refine Steps.one (.kept (locS d1) c) ?_ ⟨by simp [preOk, Row.ok, w1, hcw], emp⟩
    simp [rg, wipeE, hc, sUnp, tg, lm, lmt, ew, i23, i456, ec, Row.u]
  · refine Steps.one (.skip (locS d1) d5) ?_ ⟨by simp [preOk, w1, b5.1], emp⟩
    simp [rg, wipeE, hc, sUnp, tg, lm, lmt, ew, i23, i456, Row.u]
  · refine Steps.one (.ask w d5) ?_ ⟨by simp [preOk, ww, b5.1], one⟩
    simp [rg, wipeE, hc, sUnp, tg, lm, lmt, ew, i23, i456, Row.u]
  · refine Steps.one (.deed w (locS d1)) ?_ ⟨by simp [preOk, Row.ok, ww, w1], one⟩
    simp [rg, wipeE, hc, sUnp, tg, lm, lmt, ew, i23, i456, Row.u]
  · refine Steps.one (.give (locS d1)) ?_ ⟨by simp [preOk, Row.ok, w1], emp⟩
    simp [rg, wipeE, hc, sUnp, tg, lm, lmt, ew, i23, i456, Row.u]
  · obtain ⟨a, ha⟩ := Int.eq_ofNat_of_zero_le (Int.emod_nonneg d5 (b := 3) (by decide))
    have ha5 : d5 % 3 < 3 := Int.emod_lt_of_pos _ (by decide)
    have ha' : d5 % 3 = (a : Int) := ha
    have ea := args_ev d3 a (by omega) st
    have oa := arg_ok d3 a (by omega)
    obtain ⟨vs, sv, n, ev, lv⟩ := vouch_ev d4 d6 st
    refine Steps.one (.call (locS d1) (locS d2) (argS d3 a) vs) ?_ ⟨by simp [preOk, Row.ok, w1, w2, oa, sub_leaves sv], fun w hw => sv.subset hw⟩
    simp only [tS] at ea lv
    simp [rg, wipeE, hc, sUnp, tg, lm, lmt, ew, i23, i456, ha', ea, ev, lv, Row.u]
  · have m4 : d4 % 4 = 0 ∨ d4 % 4 = 1 ∨ d4 % 4 = 2 ∨ d4 % 4 = 3 := by omega
    rcases m4 with h | h | h | h
    · refine Steps.one .on ?_ ⟨rfl, emp⟩
      simp [rg, wipeE, hc, sUnp, tg, lm, lmt, ew, i23, i456, h, Row.u]
    · refine Steps.one (.over d5) ?_ ⟨by simp [preOk, b5.1], emp⟩
      simp [rg, wipeE, hc, sUnp, tg, lm, lmt, ew, i23, i456, h, Row.u]
    · refine Steps.one .count ?_ ⟨rfl, emp⟩
      simp [rg, wipeE, hc, sUnp, tg, lm, lmt, ew, i23, i456, h, Row.u]
    · refine Steps.one (.done w (locS d1)) ?_ ⟨by simp [preOk, Row.ok, ww, w1], one⟩
      simp [rg, wipeE, hc, sUnp, tg, lm, lmt, ew, i23, i456, h, Row.u]
/-! ### rows -/
/-- a row as it is put at its place -/
def put (behind : Nat) (r : Row) : Row := match r with
  | .skip a k => if behind = 0 then .on else .skip a (1 + k % (min behind 3 : Nat))
  | .over k => if behind = 0 then .on else .over (1 + k % (min behind 3 : Nat))
  | .ask w k => if behind = 0 then .on else .ask w (1 + k % (min behind 3 : Nat))
  | r => r
theorem put_ok {r : Row} (b : Nat) (h : Pre r) : (put b r).ok = true ∧ (put b r).goes ≤ b ∧ ∀ w ∈ (put b r).leaves, w ∈ lmS := by
  obtain ⟨h1, h2⟩ := h
  have m : ∀ k : Int, b ≠ 0 → 0 ≤ k % (min b 3 : Nat) ∧ k % (min b 3 : Nat) < (min b 3 : Nat) := fun k hb => ⟨Int.emod_nonneg _ (by omega), Int.emod_lt_of_pos _ (by omega)⟩
  cases r with
  | skip a k =>
    unfold put
    simp only
    by_cases q : b = 0
    · rw [if_pos q]; exact ⟨rfl, by show (0 : Int) ≤ _; omega, fun w hw => nomatch hw⟩
    · rw [if_neg q]
      have := m k q
      simp only [preOk, Bool.and_eq_true] at h1
      refine ⟨?_, ?_, fun w hw => nomatch hw⟩
      · show (isWordS a && decide (0 < 1 + k % (min b 3 : Nat))) = true
        rw [h1.1, Bool.true_and, decide_eq_true_eq]; omega
      · show 1 + k % (min b 3 : Nat) ≤ (b : Int)
        omega
  | over k =>
    unfold put
    simp only
    by_cases q : b = 0
    · rw [if_pos q]; exact ⟨rfl, by show (0 : Int) ≤ _; omega, fun w hw => nomatch hw⟩
    · rw [if_neg q]
      have := m k q
      refine ⟨?_, ?_, fun w hw => nomatch hw⟩
      · show decide (0 < 1 + k % (min b 3 : Nat)) = true
        rw [decide_eq_true_eq]; omega
      · show 1 + k % (min b 3 : Nat) ≤ (b : Int)
        omega
  | ask a k =>
    unfold put
    simp only
    by_cases q : b = 0
    · rw [if_pos q]; exact ⟨rfl, by show (0 : Int) ≤ _; omega, fun w hw => nomatch hw⟩
    · rw [if_neg q]
      have := m k q
      simp only [preOk, Bool.and_eq_true] at h1
      refine ⟨?_, ?_, fun w hw => h2 w hw⟩
      · show (isWordS a && decide (0 < 1 + k % (min b 3 : Nat))) = true
        rw [h1.1, Bool.true_and, decide_eq_true_eq]; omega
      · show 1 + k % (min b 3 : Nat) ≤ (b : Int)
        omega
  | _ => exact ⟨h1, by show (0 : Int) ≤ _; omega, h2⟩
theorem put_turn (rows : List Row) (k : Nat) (hk : k < rows.length) (hz : rows.length ≤ 1000) (s0 s1 s2 s3 s4 s8 s9 : Sl) (acc : List U) (ha : acc.length < 1000) (st : Store) :
    t2_l_rows [s0, s1, s2, s3, s4, .val (.lst (rows.map Row.u)), .val (.int (k : Int)), .own acc, s8, s9] st = .nx [s0, s1, s2, s3, s4, .val (.lst (rows.map Row.u)), .val (.int (k : Int)), .own (acc ++ [(put (rows.length - 1 - k) rows[k]).u]), .val (.int ((rows.length - 1 - k : Nat) : Int)), .val (put (rows.length - 1 - k) rows[k]).u] st := by
  have e1 : ((rows.length : Int) - 1 - (k : Int)) = ((rows.length - 1 - k : Nat) : Int) := by omega
  have e2 : atI (rows.map Row.u) (k : Int) = some rows[k].u := by rw [atI_cast, List.getElem?_map, List.getElem?_eq_getElem hk]; rfl
  have ha' : acc.length < 16777216 := by omega
  generalize rows.length - 1 - k = b at *
  generalize rows[k] = r at *
  unfold t2_l_rows
  have mn : (if (3 : Int) < (b : Int) then (3 : Int) else (b : Int)) = ((min b 3 : Nat) : Int) := by
    split <;> omega
  have b0 : ((b : Int) = 0) ↔ b = 0 := by omega
  have eL : (rows.map Row.u).length = rows.length := by simp
  generalize hR : rows.map Row.u = R at *
  have e1' : ((R.length : Int) - 1 - (k : Int)) = (b : Int) := by rw [eL]; exact e1
  by_cases q : b = 0
  · subst q
    cases r <;> simp [e1', e2, Row.u, in3, ha', put]
  · have hp : (0 : Int) < ((min b 3 : Nat) : Int) := by omega
    have hp' : 0 < min b 3 := by omega
    cases r <;> simp [e1', e2, Row.u, in3, ha', put, q, b0, mn, hp, hp']
def putAll (rows : List Row) : List Row := (List.range rows.length).map fun k => put (rows.length - 1 - k) (rows.getD k .on)
def stepSz : List Int := [8] ++ (List.replicate 8 [16, 60, 60, 1296, 256, 60, 6]).flatten
set_option maxHeartbeats 4000000 in
theorem rows_ok (hs : List Hd) (h0 : hs ≠ []) (hh : ∀ h ∈ hs, HOk h) (c : Int) (st : Store) :
    ∃ rows : List Row, f_l_rows [.int c, .lst (hs.map Hd.u), .int 8, .int 8] st = .ok (.tup ((putAll rows).map Row.u)) st ∧ 1 ≤ rows.length ∧ rows.length ≤ 16 ∧ ∀ r ∈ rows, Pre r := by
  obtain ⟨ds, e1, hl, hb⟩ := C.numbers_ok c stepSz (by decide) (by decide) st
  have e1' : f_l_numbers [.int c, .lst (stepSz.map U.int)] st = .ok (.lst (ds.map .int)) st := e1
  have hl57 : ds.length = 57 := hl
  have b0 := digits ds stepSz hb hl 0 8 rfl
  obtain ⟨m, hm⟩ := Int.eq_ofNat_of_zero_le b0.1
  have hm' : ds.getD 0 0 = (m : Int) := hm
  have hm8 : m < 8 := by omega
  have i0 : atI (ds.map U.int) 0 = some (.int (ds.getD 0 0)) := by
    rw [show (0 : Int) = ((0 : Nat) : Int) from rfl, atI_cast, List.getElem?_map, List.getD_eq_getElem?_getD, List.getElem?_eq_getElem (by omega)]; rfl
  have sl : ∀ k : Nat, k < 8 → cutL (ds.map U.int) (some (1 + 7 * (k : Int))) (some (8 + 7 * (k : Int))) = [.int (ds.getD (1 + 7 * k) 0), .int (ds.getD (2 + 7 * k) 0), .int (ds.getD (3 + 7 * k) 0), .int (ds.getD (4 + 7 * k) 0), .int (ds.getD (5 + 7 * k) 0), .int (ds.getD (6 + 7 * k) 0), .int (ds.getD (7 + 7 * k) 0)] := fun k hk => by
    rw [cut_ints ds (1 + 7 * k) 7 _ _ (by omega) (by omega) (by omega)]
    show [U.int (ds.getD (1 + 7 * k + 0) 0), U.int (ds.getD (1 + 7 * k + 1) 0), U.int (ds.getD (1 + 7 * k + 2) 0), U.int (ds.getD (1 + 7 * k + 3) 0), U.int (ds.getD (1 + 7 * k + 4) 0), U.int (ds.getD (1 + 7 * k + 5) 0), U.int (ds.getD (1 + 7 * k + 6) 0)] = _
    rw [show 1 + 7 * k + 1 = 2 + 7 * k by omega, show 1 + 7 * k + 2 = 3 + 7 * k by omega, show 1 + 7 * k + 3 = 4 + 7 * k by omega, show 1 + 7 * k + 4 = 5 + 7 * k by omega, show 1 + 7 * k + 5 = 6 + 7 * k by omega, show 1 + 7 * k + 6 = 7 + 7 * k by omega]
    rfl
  have szs : ∀ k, k < 8 → stepSz[1 + 7 * k]? = some 16 ∧ stepSz[5 + 7 * k]? = some 256 ∧ stepSz[6 + 7 * k]? = some 60 := by decide
  obtain ⟨env', he, hI⟩ := for_rng (j := 6) (b := t1_l_rows) (st := st) (m + 1) (fun k env => ∃ (s6 : Sl) (rows : List Row), env = [.val (.int c), .val (.lst (hs.map Hd.u)), .val (.int 8), .val (.int 8), .val (.lst (ds.map U.int)), .val (.lst (rows.map Row.u)), s6, .un, .un, .un] ∧ k ≤ rows.length ∧ rows.length ≤ 2 * k ∧ ∀ r ∈ rows, Pre r)
    (env := [.val (.int c), .val (.lst (hs.map Hd.u)), .val (.int 8), .val (.int 8), .val (.lst (ds.map U.int)), .val (.lst []), .un, .un, .un, .un]) ⟨.un, [], rfl, by simp, by simp, fun _ h => nomatch h⟩ (fun k env hk hI => by
      obtain ⟨s6, rows, rfl, l1, l2, hp⟩ := hI
      have hk8 : k < 8 := by omega
      obtain ⟨z1, z5, z6⟩ := szs k hk8
      have d1 := digits ds stepSz hb hl _ _ z1
      have d5 := digits ds stepSz hb hl _ _ z5
      have d6 := digits ds stepSz hb hl _ _ z6
      obtain ⟨more, e, m1, m2, mp⟩ := step_ok hs h0 hh (ds.getD (1 + 7 * k) 0) (ds.getD (2 + 7 * k) 0) (ds.getD (3 + 7 * k) 0) (ds.getD (4 + 7 * k) 0) (ds.getD (5 + 7 * k) 0) (ds.getD (6 + 7 * k) 0) (ds.getD (7 + 7 * k) 0) d1 d5 d6 st
      have sl' := sl k hk8
      refine ⟨[.val (.int c), .val (.lst (hs.map Hd.u)), .val (.int 8), .val (.int 8), .val (.lst (ds.map U.int)), .val (.lst ((rows ++ more).map Row.u)), .val (.int (k : Int)), .un, .un, .un], .inl ?_, _, rows ++ more, rfl, by rw [List.length_append]; omega, by rw [List.length_append]; omega, fun r hr => ?_⟩
      · have sm : smallI 7 = true := by rw [smallI_lit]; decide
        have lz : rows.length + more.length ≤ 16777216 := by omega
        unfold t1_l_rows
        generalize ds.map U.int = dU at *
        simp [sm, sl', e, lz, -cutL_mid', -List.getD_eq_getElem?_getD]
      · rcases List.mem_append.mp hr with q | q
        · exact hp r q
        · exact mp r q)
  obtain ⟨s6, rows, rfl, l1, l2, hp⟩ := hI
  refine ⟨rows, ?_, by omega, by omega, hp⟩
  obtain ⟨env2, he2, hI2⟩ := for_rng (j := 6) (b := t2_l_rows) (st := st) rows.length (fun k env => ∃ s6 s8 s9, env = [.val (.int c), .val (.lst (hs.map Hd.u)), .val (.int 8), .val (.int 8), .val (.lst (ds.map U.int)), .val (.lst (rows.map Row.u)), s6, .own (((List.range k).map fun k => put (rows.length - 1 - k) (rows.getD k .on)).map Row.u), s8, s9])
    (env := [.val (.int c), .val (.lst (hs.map Hd.u)), .val (.int 8), .val (.int 8), .val (.lst (ds.map U.int)), .val (.lst (rows.map Row.u)), s6, .own [], .un, .un]) ⟨_, _, _, rfl⟩ (fun k env hk hI => by
      obtain ⟨s6, s8, s9, rfl⟩ := hI
      have e := put_turn rows k hk (by omega) (.val (.int c)) (.val (.lst (hs.map Hd.u))) (.val (.int 8)) (.val (.int 8)) (.val (.lst (ds.map U.int))) s8 s9 (((List.range k).map fun k => put (rows.length - 1 - k) (rows.getD k .on)).map Row.u) (by simp; omega) st
      refine ⟨_, .inl e, .val (.int (k : Int)), .val (.int ((rows.length - 1 - k : Nat) : Int)), .val (put (rows.length - 1 - k) rows[k]).u, ?_⟩
      have g : rows.getD k .on = rows[k] := by rw [List.getD_eq_getElem?_getD, List.getElem?_eq_getElem hk]; rfl
      rw [List.range_succ, List.map_append, List.map_append]
      simp only [List.map_cons, List.map_nil, g])
  obtain ⟨s6', s8, s9, rfl⟩ := hI2
  have hr : rng1 [.int (1 + ds.getD 0 0)] = some ((List.range (m + 1)).map fun i => U.int (i : Nat)) := by
    rw [hm', show (1 + (m : Int)) = ((m + 1 : Nat) : Int) by omega]
    exact rng1_nat (m + 1) (by omega)
  have hr2 : rng1 [.int (rows.length : Int)] = some ((List.range rows.length).map fun i => U.int (i : Nat)) := rng1_nat rows.length (by omega)
  have m8 : mul2 (.lst [.int 16, .int 60, .int 60, .int 1296, .int 256, .int 60, .int 6]) (.int 8) = some (.lst ((List.replicate 8 [(16 : Int), 60, 60, 1296, 256, 60, 6]).flatten.map U.int)) := rfl
  have ad : add2 (.lst [.int 8]) (.lst ((List.replicate 8 [(16 : Int), 60, 60, 1296, 256, 60, 6]).flatten.map U.int)) = some (.lst (stepSz.map U.int)) := rfl
  generalize (List.replicate 8 [(16 : Int), 60, 60, 1296, 256, 60, 6]).flatten.map U.int = sU at m8 ad
  generalize stepSz.map U.int = zU at *
  unfold f_l_rows b_l_rows
  show _ = Rs.ok (U.tup (((List.range rows.length).map fun k => put (rows.length - 1 - k) (rows.getD k .on)).map Row.u)) st
  generalize ((List.range rows.length).map fun k => put (rows.length - 1 - k) (rows.getD k .on)).map Row.u = out at *
  generalize ds.map U.int = dU at *
  simp [m8, ad, e1', i0, hr, he, hr2, he2, frzE, frz1, -atI_lit, -List.getD_eq_getElem?_getD, -add_lsts]
end G1
namespace G1
open PySem L2 D C
theorem put_len (rows : List Row) : (putAll rows).length = rows.length := by unfold putAll; simp
theorem put_get (rows : List Row) (k : Nat) (h : k < (putAll rows).length) : (putAll rows)[k] = put (rows.length - 1 - k) (rows[k]'(by rw [put_len] at h; exact h)) := by
  have hk : k < rows.length := by rw [put_len] at h; exact h
  have g : rows.getD k .on = rows[k] := by rw [List.getD_eq_getElem?_getD, List.getElem?_eq_getElem hk]; rfl
  simp only [putAll, List.getElem_map, List.getElem_range, g]
theorem nodup_len : ∀ (l m : List Str), l.Nodup → (∀ x ∈ l, x ∈ m) → l.length ≤ m.length
  | [], _, _, _ => Nat.zero_le _
  | x :: l, m, nd, h => by
    rw [List.nodup_cons] at nd
    have hx := h x (List.mem_cons_self ..)
    have := nodup_len l (m.erase x) nd.2 fun y hy => (List.mem_erase_of_ne (fun e => by subst e; exact nd.1 hy)).mpr (h y (List.mem_cons_of_mem _ hy))
    rw [List.length_erase_of_mem hx] at this
    have : 0 < m.length := List.length_pos_of_mem hx
    rw [List.length_cons]
    omega
/-- a piece of these books -/
structure PG (p : Piece) : Prop where
  ok : p.ok = true
  words : ∀ w ∈ p.words, w ∈ lmS
  few : p.rows.length ≤ 16
theorem piece_pg (h : Hd) (oh : HOk h) (rows : List Row) (l1 : 1 ≤ rows.length) (l2 : rows.length ≤ 16) (hp : ∀ r ∈ rows, Pre r) : PG ⟨h.name, h.own, h.params, putAll rows⟩ := by
  have each : ∀ k (hk : k < (putAll rows).length), ((putAll rows)[k]).ok = true ∧ ((putAll rows)[k]).goes ≤ (rows.length - 1 - k : Nat) ∧ ∀ w ∈ ((putAll rows)[k]).leaves, w ∈ lmS := fun k hk => by
    rw [put_get rows k hk]
    exact put_ok _ (hp _ (List.getElem_mem _))
  have mem : ∀ r ∈ putAll rows, r.ok = true ∧ ∀ w ∈ r.leaves, w ∈ lmS := fun r hr => by
    obtain ⟨k, hk, rfl⟩ := List.getElem_of_mem hr
    exact ⟨(each k hk).1, (each k hk).2.2⟩
  refine ⟨(pok_iff _).mpr ⟨oh.name, sub_leaves oh.own, oh.params, oh.nodup, ?_, ?_, fun r hr => (mem r hr).1, fun k hk => ?_⟩, fun w hw => ?_, ?_⟩
  · show 1 ≤ (putAll rows).length; rw [put_len]; exact l1
  · show (putAll rows).length ≤ 60; rw [put_len]; omega
  · have := (each k hk).2.1
    have hk' : k < (putAll rows).length := hk
    rw [put_len] at hk'
    show (k : Int) + 1 + ((putAll rows)[k]).goes ≤ ((putAll rows).length : Nat)
    have e : ((putAll rows).length : Int) = rows.length := by rw [put_len]
    rw [e]
    omega
  · unfold Piece.words at hw
    rcases List.mem_append.mp hw with q | q
    · exact oh.own.subset q
    · obtain ⟨r, hr, hw'⟩ := List.mem_flatMap.mp q
      exact (mem r hr).2 w hw'
  · show (putAll rows).length ≤ 16; rw [put_len]; exact l2
theorem pg_words {p : Piece} (h : PG p) : p.words.length ≤ 136 := by
  have := words_len h.ok
  have := h.few
  omega
theorem roster_len {b : List Piece} (h : ∀ p ∈ b, PG p) : (rosterB b).length ≤ 8 := by
  unfold rosterB
  rw [(sort_perm _).length_eq]
  have sub : ∀ w ∈ dedS (wordsB b), w ∈ lmS := fun w hw => by
    rw [ded_mem] at hw
    unfold wordsB at hw
    obtain ⟨p, hp, hw⟩ := List.mem_flatMap.mp hw
    exact (h p hp).words w hw
  exact nodup_len _ lmS (ded_nodup _) sub
theorem good_of {b : List Piece} (h1 : 1 ≤ b.length) (h2 : b.length ≤ 12) (h : ∀ p ∈ b, PG p) (nd : (b.map Piece.name).Nodup) : goodB b := ⟨h1, h2, fun p hp => (h p hp).ok, nd, roster_len h⟩
theorem words_few {b : List Piece} (h : ∀ p ∈ b, PG p) (hl : b.length ≤ 12) : (wordsB b).length < 4000 := by
  unfold wordsB
  have := flat_len Piece.words 136 b fun p hp => pg_words (h p hp)
  omega
set_option maxHeartbeats 4000000 in
theorem book_ok (cells : List Int) (hc : 1 ≤ cells.length) (hc2 : cells.length ≤ 1000) (st : Store) :
    ∃ b : List Piece, f_l_book [.lst (cells.map U.int), .int 4, .int 8, .int 8] st = .ok (bookU b) st ∧ 1 ≤ b.length ∧ b.length ≤ 4 ∧ (∀ p ∈ b, PG p) ∧ (b.map Piece.name).Nodup := by
  obtain ⟨c0, rest, rfl⟩ : ∃ c r, cells = c :: r := by cases cells with
    | nil => simp at hc
    | cons c r => exact ⟨c, r, rfl⟩
  obtain ⟨ds, n, e1, n1, n4, hl, hb⟩ := heads_ev c0 st
  have oks : ∀ i, i < 4 → HOk (hdOf ds i) := fun i hi => hd_ok ds hl hb i hi
  have nms := hd_names ds hl hb n n4
  generalize hhs : (List.range n).map (hdOf ds) = hs at *
  have lhs : hs.length = n := by subst hhs; simp
  have h0 : hs ≠ [] := by intro e; rw [e] at lhs; simp at lhs; omega
  have hh : ∀ h ∈ hs, HOk h := fun h hm => by
    subst hhs
    obtain ⟨i, hi, rfl⟩ := List.mem_map.mp hm
    exact oks i (by have := List.mem_range.mp hi; omega)
  obtain ⟨env', he, hI⟩ := for_rng (j := 6) (b := t1_l_book) (st := st) n (fun k env => ∃ (s6 s7 : Sl) (b : List Piece), env = [.val (.lst ((c0 :: rest).map U.int)), .val (.int 4), .val (.int 8), .val (.int 8), .val (.lst (hs.map Hd.u)), .own (b.map Piece.u), s6, s7] ∧ b.map Piece.name = (hs.take k).map Hd.name ∧ ∀ p ∈ b, PG p)
    (env := [.val (.lst ((c0 :: rest).map U.int)), .val (.int 4), .val (.int 8), .val (.int 8), .val (.lst (hs.map Hd.u)), .own [], .un, .un]) ⟨.un, .un, [], rfl, by simp, fun _ h => nomatch h⟩ (fun k env hk hI => by
      obtain ⟨s6, s7, b, rfl, nb, hp⟩ := hI
      have hkl : k < hs.length := by omega
      obtain ⟨c, ec⟩ : ∃ c : Int, atI ((c0 :: rest).map U.int ++ [.int 0, .int 0, .int 0, .int 0, .int 0, .int 0, .int 0, .int 0, .int 0, .int 0, .int 0, .int 0]) (1 + (k : Int)) = some (.int c) := by
        have : (c0 :: rest).map U.int ++ [.int 0, .int 0, .int 0, .int 0, .int 0, .int 0, .int 0, .int 0, .int 0, .int 0, .int 0, .int 0] = ((c0 :: rest) ++ List.replicate 12 (0 : Int)).map U.int := by rw [List.map_append]; rfl
        rw [this]
        obtain ⟨x, _, ex⟩ := pick ((c0 :: rest) ++ List.replicate 12 (0 : Int)) (1 + (k : Int)) (by omega) (by simp; omega)
        exact ⟨x, atI_map U.int ex⟩
      obtain ⟨rows, er, l1, l2, pr⟩ := rows_ok hs h0 hh c st
      have eh : atI (hs.map Hd.u) (k : Int) = some hs[k].u := by rw [atI_cast, List.getElem?_map, List.getElem?_eq_getElem hkl]; rfl
      have hg := piece_pg hs[k] (hh _ (List.getElem_mem hkl)) rows l1 l2 pr
      have lb : b.length = k := by have := congrArg List.length nb; simpa [Nat.min_eq_left (Nat.le_of_lt hkl)] using this
      have mz : mul2 (.lst [.int 0]) (.int 12) = some (.lst [.int 0, .int 0, .int 0, .int 0, .int 0, .int 0, .int 0, .int 0, .int 0, .int 0, .int 0, .int 0]) := rfl
      refine ⟨[.val (.lst ((c0 :: rest).map U.int)), .val (.int 4), .val (.int 8), .val (.int 8), .val (.lst (hs.map Hd.u)), .own ((b ++ [(⟨hs[k].name, hs[k].own, hs[k].params, putAll rows⟩ : Piece)]).map Piece.u), .val (.int (k : Int)), .val (.int c)], .inl ?_, _, _, b ++ [⟨hs[k].name, hs[k].own, hs[k].params, putAll rows⟩], rfl, ?_, ?_⟩
      · unfold t1_l_book
        have ap : add2 hs[k].u (.tup [.tup ((putAll rows).map Row.u)]) = some (Piece.u ⟨hs[k].name, hs[k].own, hs[k].params, putAll rows⟩) := by
          unfold Hd.u Piece.u
          simp
        have lc : ((c0 :: rest).map U.int).length + 12 ≤ 16777216 := by rw [List.length_map]; omega
        generalize (c0 :: rest).map U.int = cU at *
        have lk : k < 16777216 := by omega
        simp [mz, lc, ec, eh, er, ap, lb, lk]
      · rw [List.map_append, nb, List.take_succ_eq_append_getElem hkl, List.map_append]
        rfl
      · intro p hpm
        rcases List.mem_append.mp hpm with q | q
        · exact hp p q
        · rw [List.mem_singleton] at q; subst q; exact hg)
  obtain ⟨s6, s7, b, rfl, nb, hp⟩ := hI
  rw [← lhs, List.take_length] at nb
  have lb : b.length = n := by have := congrArg List.length nb; simpa [lhs] using this
  refine ⟨b, ?_, by omega, by omega, hp, by rw [nb]; exact nms⟩
  have hr : rng1 [.int (n : Int)] = some ((List.range n).map fun i => U.int (i : Nat)) := rng1_nat n (by omega)
  have c00 : ix2 (.lst ((c0 :: rest).map U.int)) (.int 0) = some (.int c0) := by simp
  unfold f_l_book b_l_book bookU
  generalize (c0 :: rest).map U.int = cU at *
  simp [c00, e1, lhs, hr, he, frzE, frz1]
end G1
namespace C
open PySem L2 D
def b_l_is_word : DS := (sSeq (sIf (orT (notT (tst (appN isiN (acons (var 0) (acons (cst (.ty "str")) anil))))) (orT (tst (bin lt2 (appN lenN (acons (var 0) anil)) (cst (.int 1)))) (tst (bin gt2 (appN lenN (acons (var 0) anil)) (cst (.int 8)))))) (sSeq (sRet (cst (.bl false))) sNil) sNil) (sSeq (sRet (bin eq2 (newL (compD (itemsD (var 0)) [1] (tgN 1) (tst (bin nin2 (var 1) (cst (.str (Str.ofString "abcdefghijklmnopqrstuvwxyz"))))) (var 1))) (appN szL anil))) sNil))
def f_l_is_word : List U → Store → Rs U := runB 2 1 b_l_is_word
def b_l_whole : DS := (sSeq (sRet (andV (appN isiN (acons (var 0) (acons (cst (.ty "int")) anil))) (notV (appN isiN (acons (var 0) (acons (cst (.ty "bool")) anil)))))) sNil)
def f_l_whole : List U → Store → Rs U := runB 1 1 b_l_whole
def b_l_fits : DS := (sSeq (sIf (tst (bin eq2 (var 0) (cst (.str (Str.ofString "w"))))) (sSeq (sRet (appU f_l_is_word (acons (var 1) anil))) sNil) sNil) (sSeq (sIf (tst (bin eq2 (var 0) (cst (.str (Str.ofString "n"))))) (sSeq (sRet (andV (appU f_l_whole (acons (var 1) anil)) (chain le2 le2 (neg1D (bin pow2 (cst (.int 10)) (cst (.int 18)))) (var 1) (bin pow2 (cst (.int 10)) (cst (.int 18)))))) sNil) sNil) (sSeq (sIf (tst (bin eq2 (var 0) (cst (.str (Str.ofString "k"))))) (sSeq (sRet (andV (appU f_l_whole (acons (var 1) anil)) (bin ge2 (var 1) (cst (.int 1))))) sNil) sNil) (sSeq (sIf (orT (notT (tst (appN isiN (acons (var 1) (acons (cst (.ty "tuple")) anil))))) (tst (bin ne2 (newL (compD (itemsD (var 1)) [2] (tgN 2) (notT (tst (appU f_l_is_word (acons (var 2) anil)))) (var 2))) (appN szL anil)))) (sSeq (sRet (cst (.bl false))) sNil) sNil) (sSeq (sIf (tst (bin eq2 (var 0) (cst (.str (Str.ofString "a"))))) (sSeq (sRet (bin le2 (appN lenN (acons (var 1) anil)) (cst (.int 4)))) sNil) sNil) (sSeq (sRet (andV (bin le2 (appN lenN (acons (var 1) anil)) (cst (.int 8))) (bin eq2 (newL (itA lstL (acons (var 1) anil))) (newL (itE sortSet1 (var 1)))))) sNil))))))
def f_l_fits : List U → Store → Rs U := runB 3 2 b_l_fits
def b_l_forms : DS := (sSeq (sSet 0 (appN szL (acons (appN szT (acons (cst (.str (Str.ofString "set"))) (acons (cst (.str (Str.ofString "wn"))) anil))) (acons (appN szT (acons (cst (.str (Str.ofString "same"))) (acons (cst (.str (Str.ofString "ww"))) anil))) (acons (appN szT (acons (cst (.str (Str.ofString "sum"))) (acons (cst (.str (Str.ofString "www"))) anil))) (acons (appN szT (acons (cst (.str (Str.ofString "less"))) (acons (cst (.str (Str.ofString "www"))) anil))) (acons (appN szT (acons (cst (.str (Str.ofString "hold"))) (acons (cst (.str (Str.ofString "wwa"))) anil))) (acons (appN szT (acons (cst (.str (Str.ofString "call"))) (acons (cst (.str (Str.ofString "wwal"))) anil))) anil)))))))) (sSeq (sSet 0 (bin add2 (var 0) (appN szL (acons (appN szT (acons (cst (.str (Str.ofString "last"))) (acons (cst (.str (Str.ofString "wal"))) anil))) (acons (appN szT (acons (cst (.str (Str.ofString "give"))) (acons (cst (.str (Str.ofString "w"))) anil))) (acons (appN szT (acons (cst (.str (Str.ofString "keep"))) (acons (cst (.str (Str.ofString "ww"))) anil))) (acons (appN szT (acons (cst (.str (Str.ofString "kept"))) (acons (cst (.str (Str.ofString "ww"))) anil))) (acons (appN szT (acons (cst (.str (Str.ofString "skip"))) (acons (cst (.str (Str.ofString "wk"))) anil))) (acons (appN szT (acons (cst (.str (Str.ofString "over"))) (acons (cst (.str (Str.ofString "k"))) anil))) anil))))))))) (sSeq (sRet (bin add2 (var 0) (appN szL (acons (appN szT (acons (cst (.str (Str.ofString "on"))) (acons (cst (.str (Str.ofString ""))) anil))) (acons (appN szT (acons (cst (.str (Str.ofString "count"))) (acons (cst (.str (Str.ofString ""))) anil))) (acons (appN szT (acons (cst (.str (Str.ofString "ask"))) (acons (cst (.str (Str.ofString "wk"))) anil))) (acons (appN szT (acons (cst (.str (Str.ofString "deed"))) (acons (cst (.str (Str.ofString "ww"))) anil))) (acons (appN szT (acons (cst (.str (Str.ofString "done"))) (acons (cst (.str (Str.ofString "ww"))) anil))) anil)))))))) sNil)))
def f_l_forms : List U → Store → Rs U := runB 1 0 b_l_forms
def t1_l_is_row : DS := (sSeq (sIf (andT (tst (bin eq2 (bin ix2 (var 0) (cst (.int 0))) (var 1))) (tst (bin eq2 (appN lenN (acons (var 0) anil)) (bin add2 (appN lenN (acons (var 2) anil)) (cst (.int 1)))))) (sSeq (sRet (bin eq2 (newL (compD (itA rng1 (acons (appN lenN (acons (var 2) anil)) anil)) [3] (tgN 3) (notT (tst (appU f_l_fits (acons (bin ix2 (var 2) (var 3)) (acons (bin ix2 (var 0) (bin add2 (cst (.int 1)) (var 3))) anil))))) (var 3))) (appN szL anil))) sNil) sNil) sNil)
def b_l_is_row : DS := (sSeq (sIf (orT (notT (tst (appN isiN (acons (var 0) (acons (cst (.ty "tuple")) anil))))) (orT (tst (bin eq2 (var 0) (appN szT anil))) (notT (tst (appN isiN (acons (bin ix2 (var 0) (cst (.int 0))) (acons (cst (.ty "str")) anil))))))) (sSeq (sRet (cst (.bl false))) sNil) sNil) (sSeq (sFor (itemsD (appU f_l_forms anil)) (tgT [1, 2]) t1_l_is_row) (sSeq (sRet (cst (.bl false))) sNil)))
def f_l_is_row : List U → Store → Rs U := runB 4 1 b_l_is_row
theorem l_is_word_ev {u : U} (h : tame u = true) (st : Store) : f_l_is_word [u] st = .ok (.bl (wordU u)) st := by
  unfold f_l_is_word b_l_is_word
  cases u <;> first | (simp [wordU]; done) | skip
  case str x =>
    obtain ⟨hx, _⟩ := tame_str h
    have hw : wordU (.str x) = (decide (1 ≤ x.length) && decide (x.length ≤ 8) && x.cps.toList.all (fun c => decide (c ∈ letters))) := rfl
    have hs : x.cps.size ≤ 16777216 := hx
    have hc := odd_comp x 1 [.val (.str x), .un] (Nat.lt_succ_self 1) st (var 1) (fun c => by simp)
    have he := odd_empty x
    by_cases h1 : 1 ≤ x.length
    · have i1 : ¬ (x.length : Int) < 1 := by omega
      by_cases h8 : x.length ≤ 8
      · have i8 : ¬ 8 < (x.length : Int) := by omega
        generalize oddL x = od at hc he
        cases ha : x.cps.toList.all (fun c => decide (c ∈ letters)) with
        | true => rw [ha] at he; simp [hx, hs, i1, i8, wipeE, hc, hw, ha, h1, h8, he, -List.all_eq_true]
        | false => rw [ha] at he; simp [hx, hs, i1, i8, wipeE, hc, hw, ha, h1, h8, he, -List.all_eq_false]
      · have i8 : 8 < (x.length : Int) := by omega
        simp [hx, i1, i8, hw, h8]
    · have i1 : (x.length : Int) < 1 := by omega
      simp [hx, i1, hw, h1]
  case ref n => cases h
  case ty n => cases h
theorem l_whole_ev {u : U} {t : String} (h : tyU u = some t) (st : Store) : f_l_whole [u] st = .ok (.bl (wholeU u)) st := is_whole_ev h st
abbrev cW : Str := Str.ofString "w"
abbrev cN : Str := Str.ofString "n"
abbrev cK : Str := Str.ofString "k"
abbrev cA : Str := Str.ofString "a"
def fitsU (c : Str) (u : U) : Bool := if c = cW then wordU u else if c = cN then numbU u else if c = cK then overU u else if c = cA then argsU u else areL u
theorem pow18 : pow2 (.int 10) (.int 18) = some (.int 1000000000000000000) := by simp [pow2]
theorem filter_not_isEmpty (us : List U) (p : U → Bool) : (us.filter fun u => !p u).isEmpty = us.all p := by
  cases q : us.all p with
  | true =>
    rw [List.isEmpty_iff, List.filter_eq_nil_iff]
    intro u hu
    rw [List.all_eq_true] at q
    simpa using q u hu
  | false =>
    rw [List.isEmpty_eq_false_iff, Ne, List.filter_eq_nil_iff]
    intro z
    rw [← Bool.not_eq_true, List.all_eq_true] at q
    exact q fun u hu => by simpa using z u hu
theorem fits_tup (c : Str) (us : List U) (h : us.all tame = true) (hz : us.length ≤ 1000) (st : Store) (q1 : c ≠ cW) (q2 : c ≠ cN) (q3 : c ≠ cK) : f_l_fits [.str c, .tup us] st = .ok (.bl (if c = cA then argsU (.tup us) else areL (.tup us))) st := by
  rw [List.all_eq_true] at h
  have hc : compL (tgN 2) (notT (tst (appU f_l_is_word (acons (var 2) anil)))) (var 2) (us.map id) [.val (.str c), .val (.tup us), .un] st = .ok ((us.filter fun u => !wordU u).map id) st :=
    comp_filterM us fun u hu => ⟨_, rfl, by simp [l_is_word_ev (h u hu) st], fun _ => by simp⟩
  rw [List.map_id, List.map_id] at hc
  have hz' : us.length ≤ 16777216 := by omega
  have he := filter_not_isEmpty us wordU
  generalize (us.filter fun u => !wordU u) = od at hc he
  unfold f_l_fits b_l_fits
  cases ha : us.all wordU with
  | false =>
    rw [ha] at he
    have e1 : argsU (.tup us) = false := by unfold argsU; simp only; rw [ha, Bool.and_false]
    have e2 : areL (.tup us) = false := by
      cases q : areL (.tup us) with
      | false => rfl
      | true =>
        exfalso
        unfold areL at q
        simp only [Bool.and_eq_true, List.all_eq_true] at q
        have : us.all wordU = true := by
          rw [List.all_eq_true]
          intro u hu
          obtain ⟨i, hi, rfl⟩ := List.getElem_of_mem hu
          have := q.2 i (List.mem_range.mpr hi)
          unfold leafAt at this
          rw [getD_of (List.getElem?_eq_getElem hi), Bool.and_eq_true] at this
          exact this.1
        rw [ha] at this; cases this
    simp [q1, q2, q3, hz', wipeE, hc, he, e1, e2]
  | true =>
    rw [ha] at he
    obtain ⟨ws, rfl, hw⟩ := words_of ha
    by_cases q4 : c = cA
    · subst q4
      have e1 : argsU (.tup (ws.map U.str)) = decide (ws.length ≤ 4) := by unfold argsU; simp only; rw [ha, Bool.and_true, List.length_map]
      have i4 : ((ws.length : Int) ≤ 4) ↔ ws.length ≤ 4 := by omega
      have hz'' : ws.length ≤ 16777216 := by simpa using hz'
      simp [hz'', wipeE, hc, he, e1, i4]
    · have e2 := areL_txt ws hw
      have i8 : ((ws.length : Int) ≤ 8) ↔ ws.length ≤ 8 := by omega
      have hz'' : ws.length ≤ 16777216 := by simpa using hz'
      have ss := sortSet_txt (ws := ws) (by rw [List.length_map] at hz; omega)
      have eqq := eq_txtL ws (sortS (dedS ws))
      by_cases h8 : ws.length ≤ 8
      · have i8' : (ws.length : Int) ≤ 8 := by omega
        simp [q1, q2, q3, q4, hz'', wipeE, hc, he, e2, i8', h8, ss, eqq]
      · have i8' : ¬ (ws.length : Int) ≤ 8 := by omega
        simp [q1, q2, q3, q4, hz'', wipeE, hc, he, e2, i8', h8]
theorem l_fits_ev (c : Str) {u : U} (h : tame1 u = true) (hz : ∀ us, u = .tup us → us.length ≤ 1000) (st : Store) : f_l_fits [.str c, u] st = .ok (.bl (fitsU c u)) st := by
  obtain ⟨t, ht⟩ := tame1_ty h
  have e1 := l_is_word_ev (tame1_tame h) st
  have e2 := l_whole_ev ht st
  unfold fitsU
  by_cases q1 : c = cW
  · unfold f_l_fits b_l_fits
    simp [q1, e1]
  by_cases q2 : c = cN
  · unfold f_l_fits b_l_fits
    cases u <;> first | (simp [q2, e2, wholeU, numbU]; done) | skip
    case int i =>
      simp [q2, e2, wholeU, numbU, pow18]
      by_cases r : -1000000000000000000 ≤ i <;> simp [r]
  by_cases q3 : c = cK
  · unfold f_l_fits b_l_fits
    cases u <;> first | (simp [q3, e2, wholeU, overU]; done) | skip
    case int i =>
      have : (1 ≤ i) ↔ 0 < i := by omega
      simp [q3, e2, wholeU, overU, this]
  rw [if_neg q1, if_neg q2, if_neg q3]
  cases u with
  | tup us => exact fits_tup c us h (hz us rfl) st q1 q2 q3
  | ref n => cases h
  | ty n => cases h
  | _ =>
    unfold f_l_fits b_l_fits
    simp [q1, q2, q3, argsU, areL]
/-! ### the forms -/
def encC (s : Str) : Nat := if s = wWord then 119 else if s = wNumber then 110 else if s = wArgs then 97 else if s = wLeaves then 108 else 107
def encS (ss : List Str) : Str := ⟨(ss.map encC).toArray⟩
def formsS : List (Str × Str) := tabS.map fun p => (p.1, encS p.2)
def formU (p : Str × Str) : U := .tup [.str p.1, .str p.2]
def formsL : List (Str × String) := [("set", "wn"), ("same", "ww"), ("sum", "www"), ("less", "www"), ("hold", "wwa"), ("call", "wwal"), ("last", "wal"), ("give", "w"), ("keep", "ww"), ("kept", "ww"), ("skip", "wk"), ("over", "k"), ("on", ""), ("count", ""), ("ask", "wk"), ("deed", "ww"), ("done", "ww")]
theorem forms_eq : formsL.map (fun p => (p.1, Str.ofString p.2)) = formsS := by decide +kernel
theorem forms_ev (st : Store) : f_l_forms [] st = .ok (.lst (formsS.map formU)) st := by
  rw [← forms_eq]
  unfold f_l_forms b_l_forms
  simp [formsL, formU]
theorem enc_fits (s : Str) (h : s ∈ [wWord, wNumber, wArgs, wLeaves, Str.ofString "over"]) (u : U) : fitsU ⟨#[encC s]⟩ u = partU s u := by
  have a1 : (⟨#[119]⟩ : Str) = cW := by decide +kernel
  have a2 : (⟨#[110]⟩ : Str) = cN := by decide +kernel
  have a3 : (⟨#[97]⟩ : Str) = cA := by decide +kernel
  have a4 : (⟨#[107]⟩ : Str) = cK := by decide +kernel
  have a5 : (⟨#[108]⟩ : Str) = Str.ofString "l" := by decide +kernel
  simp only [List.mem_cons, List.not_mem_nil, or_false] at h
  rcases h with rfl | rfl | rfl | rfl | rfl
  · simp [encC, fitsU, partU, a1]
  · simp [encC, fitsU, partU, a2]
  · simp [encC, fitsU, partU, a3]
  · simp [encC, fitsU, partU, a5]
  · simp [encC, fitsU, partU, a4]
theorem tab_sorts : ∀ p ∈ tabS, ∀ s ∈ p.2, s ∈ [wWord, wNumber, wArgs, wLeaves, Str.ofString "over"] := by decide +kernel
theorem tab_keys : (tabS.map (·.1)).Nodup := by decide +kernel
theorem find_key {A : Type} (c : A → Bool) (w : Str) : ∀ (l : List (Str × A)), (l.map (·.1)).Nodup → l.find? (fun p => decide (p.1 = w) && c p.2) = (l.find? fun p => decide (p.1 = w)).filter fun p => c p.2
  | [], _ => rfl
  | p :: l, h => by
    rw [List.map_cons, List.nodup_cons] at h
    by_cases q : p.1 = w
    · rw [List.find?_cons_of_pos (p := fun p : Str × A => decide (p.1 = w)) (by simpa using q)]
      cases hc : c p.2 with
      | true =>
        rw [List.find?_cons_of_pos (by simp [q, hc]), Option.filter_some_pos (p := fun p : Str × A => c p.2) hc]
      | false =>
        rw [List.find?_cons_of_neg (by simp [hc])]
        have : l.find? (fun p => decide (p.1 = w) && c p.2) = none := by
          rw [List.find?_eq_none]
          intro r hr z
          simp only [Bool.and_eq_true, decide_eq_true_eq] at z
          exact h.1 (List.mem_map.mpr ⟨r, hr, by rw [z.1, q]⟩)
        rw [this, Option.filter_some_neg (by simp [hc])]
    · rw [List.find?_cons_of_neg (by simp [q]), List.find?_cons_of_neg (by simpa using q), find_key c w l h.2]
theorem forms_keys : (formsS.map (·.1)).Nodup := by
  unfold formsS
  rw [List.map_map]
  exact tab_keys
theorem forms_find (w : Str) : (formsS.find? fun p => decide (p.1 = w)) = (tabS.find? fun p => decide (p.1 = w)).map fun p => (p.1, encS p.2) := by
  unfold formsS
  rw [List.find?_map]
  rfl
/-- what the law tells of a form that fits -/
def allFit (s : Str) (ps : List U) : Bool := (List.range s.length).all fun k => fitsU ⟨#[s.cps.getD k 0]⟩ (ps.getD k .non)
theorem str_ix (s : Str) (k : Nat) (h : k < s.length) (hz : s.length ≤ 16777216) : ix2 (.str s) (.int (k : Int)) = some (.str ⟨#[s.cps.getD k 0]⟩) := by
  have hk : k < s.cps.size := h
  show (if s.length ≤ sizeLine then (atI s.cps.toList (k : Int)).map fun c => U.str ⟨#[c]⟩ else none) = _
  rw [if_pos (by rw [sizeLine_val]; exact hz), atI_cast]
  simp [hk, Array.getD]
theorem is_row_turn (w : Str) (ps : List U) (h : ps.all tame1 = true) (hz : ∀ u ∈ ps, ∀ us, u = .tup us → us.length ≤ 1000) (f : Str × Str) (hf : f.2.length ≤ 4) (st : Store) :
    t1_l_is_row [.val (.tup (.str w :: ps)), .val (.str f.1), .val (.str f.2), .un] st = if (decide (f.1 = w) && decide (ps.length = f.2.length)) = true then .rt (.bl (allFit f.2 ps)) st else .nx [.val (.tup (.str w :: ps)), .val (.str f.1), .val (.str f.2), .un] st := by
  obtain ⟨x, s⟩ := f
  simp only at hf ⊢
  have hz' : s.length ≤ 16777216 := by omega
  unfold t1_l_is_row
  by_cases q1 : x = w
  · subst q1
    have hx : ((ps.length : Int) + 1 = (s.length : Int) + 1) ↔ ps.length = s.length := by omega
    by_cases q2 : ps.length = s.length
    · have hr : rng1 [.int (s.length : Int)] = some ((List.range s.length).map fun i => U.int (i : Nat)) := rng1_nat s.length (by omega)
      have hc : compL (tgN 3) (notT (tst (appU f_l_fits (acons (bin ix2 (var 2) (var 3)) (acons (bin ix2 (var 0) (bin add2 (cst (.int 1)) (var 3))) anil))))) (var 3) ((List.range s.length).map fun i => U.int (i : Nat)) [.val (.tup (.str x :: ps)), .val (.str x), .val (.str s), .un] st
          = .ok (((List.range s.length).filter fun k => !fitsU ⟨#[s.cps.getD k 0]⟩ (ps.getD k .non)).map fun i => U.int (i : Nat)) st := by
        refine comp_filterM (List.range s.length) fun k hk => ?_
        have hk := List.mem_range.mp hk
        have i1 := str_ix s k hk hz'
        have hk2 : k < ps.length := by omega
        have i2 : atI (.str x :: ps) (1 + (k : Int)) = some ps[k] := by
          rw [show (1 + (k : Int)) = ((k + 1 : Nat) : Int) by omega, atI_cast]
          simp [hk2]
        have i3 : ps.getD k .non = ps[k] := getD_of (List.getElem?_eq_getElem hk2)
        rw [List.all_eq_true] at h
        have i4 := l_fits_ev ⟨#[s.cps.getD k 0]⟩ (h ps[k] (List.getElem_mem hk2)) (hz ps[k] (List.getElem_mem hk2)) st
        refine ⟨_, rfl, ?_, fun _ => by simp⟩
        rw [i3]
        generalize (⟨#[s.cps.getD k 0]⟩ : Str) = ch at i1 i4 ⊢
        simp [i1, i2, i4]
      have hl : (List.range s.length).length ≤ 16777216 := by simpa using hz'
      have he : ((List.range s.length).filter fun k => !fitsU ⟨#[s.cps.getD k 0]⟩ (ps.getD k .non)).isEmpty = allFit s ps := by
        unfold allFit
        cases q : (List.range s.length).all fun k => fitsU ⟨#[s.cps.getD k 0]⟩ (ps.getD k .non) with
        | true =>
          rw [List.isEmpty_iff, List.filter_eq_nil_iff]
          intro u hu
          rw [List.all_eq_true] at q
          simpa using q u hu
        | false =>
          rw [List.isEmpty_eq_false_iff, Ne, List.filter_eq_nil_iff]
          intro z
          rw [← Bool.not_eq_true, List.all_eq_true] at q
          exact q fun u hu => by simpa using z u hu
      generalize ((List.range s.length).filter fun k => !fitsU ⟨#[s.cps.getD k 0]⟩ (ps.getD k .non)) = fl at hc he
      simp [hz', q2, hr, wipeE, hc, he]
    · simp [hz', hx, q2]
  · have q1' : w ≠ x := fun e => q1 e.symm
    simp [q1, q1']
theorem enc_len (ss : List Str) : (encS ss).length = ss.length := by simp [encS, Str.length]
theorem all_fit_parts : ∀ (ss : List Str) (ps : List U), (∀ s ∈ ss, s ∈ [wWord, wNumber, wArgs, wLeaves, Str.ofString "over"]) → ps.length = ss.length → allFit (encS ss) ps = (List.zipWith partU ss ps).all id := by
  intro ss ps h hl
  unfold allFit
  rw [enc_len]
  induction ss generalizing ps with
  | nil => rfl
  | cons s ss ih =>
    cases ps with
    | nil => cases hl
    | cons p ps =>
      rw [List.length_cons, range_all_succ, List.zipWith_cons_cons, List.all_cons]
      have e0 := enc_fits s (h s (List.mem_cons_self ..)) p
      have e1 := ih ps (fun x hx => h x (List.mem_cons_of_mem _ hx)) (by simpa using hl)
      rw [← e1, id, ← e0]
      congr 1
      have g : ∀ k, (encS (s :: ss)).cps.getD (k + 1) 0 = (encS ss).cps.getD k 0 := fun k => by simp [encS, Array.getD_eq_getD_getElem?]
      simp only [g, List.getD_cons_succ]
theorem l_is_row_ev {u : U} (h : tame2 u = true) (hz : ∀ us, u = .tup us → ∀ v ∈ us, ∀ vs, v = .tup vs → vs.length ≤ 1000) (st : Store) : f_l_is_row [u] st = .ok (.bl (rowU u)) st := by
  unfold f_l_is_row b_l_is_row
  cases u <;> first | cases h | skip
  case tup us =>
    cases us with
    | nil => simp [rowU]
    | cons x ps =>
      have h' : (x :: ps).all tame1 = true := h
      rw [List.all_cons, Bool.and_eq_true] at h'
      obtain ⟨t, ht⟩ := tame1_ty h'.1
      by_cases hs : t = "str"
      · subst hs
        obtain ⟨w, rfl⟩ : ∃ w, x = .str w := by
          cases x with
          | str w => exact ⟨w, rfl⟩
          | _ => simp [tyU] at ht
        have fe := forms_ev st
        have lens : ∀ f ∈ formsS, f.2.length ≤ 4 := by decide +kernel
        have loop := for_first (t := tgT [1, 2]) (b := t1_l_is_row) (st := st) (f := formU) (fun env => ∃ s1 s2, env = [.val (.tup (.str w :: ps)), s1, s2, .un]) (fun f => decide (f.1 = w) && decide (ps.length = f.2.length)) (fun f => .bl (allFit f.2 ps)) formsS [.val (.tup (.str w :: ps)), .un, .un, .un] ⟨_, _, rfl⟩ (fun f hf env hI => by
          obtain ⟨s1, s2, rfl⟩ := hI
          have e := is_row_turn w ps h'.2 (fun v hv vs e => hz _ rfl v (List.mem_cons_of_mem _ hv) vs e) f (lens f hf) st
          refine ⟨_, tgT2_ap _ _ _ _, ?_⟩
          by_cases q : (decide (f.1 = w) && decide (ps.length = f.2.length)) = true
          · rw [if_pos q] at e ⊢
            exact e
          · rw [if_neg q] at e ⊢
            exact ⟨_, e, _, _, rfl⟩)
        rw [find_key (fun s : Str => decide (ps.length = s.length)) w formsS forms_keys, forms_find] at loop
        have lk : lookS w = (tabS.find? fun p => decide (p.1 = w)).map (·.2) := rfl
        cases hfd : (tabS.find? fun p => decide (p.1 = w)) with
        | none =>
          rw [hfd] at loop lk
          have lk : lookS w = none := lk
          rcases loop with ⟨y, e1, _⟩ | ⟨_, env', e2, s1, s2, rfl⟩
          · cases e1
          · simp [fe, e2, rowU, lk]
        | some p =>
          rw [hfd] at loop lk
          have lk : lookS w = some p.2 := lk
          have hp := List.mem_of_find?_eq_some hfd
          by_cases q : ps.length = p.2.length
          · rw [Option.map_some, Option.filter_some_pos (by rw [enc_len]; simpa using q)] at loop
            rcases loop with ⟨y, e1, e2⟩ | ⟨e1, _⟩
            · cases e1
              have e3 := all_fit_parts p.2 ps (tab_sorts p hp) q
              simp [fe, e2, rowU, lk, q, e3]
            · cases e1
          · rw [Option.map_some, Option.filter_some_neg (by rw [enc_len]; simpa using q)] at loop
            rcases loop with ⟨y, e1, _⟩ | ⟨_, env', e2, s1, s2, rfl⟩
            · cases e1
            · simp [fe, e2, rowU, lk, q]
      · have e1 : isiN [x, .ty "str"] = some (.bl false) := by rw [isi_ev ht (by decide)]; simp [isB, hs]
        have e2 : rowU (.tup (x :: ps)) = false := by
          cases x <;> first | rfl | skip
          cases ht; exact absurd rfl hs
        simp [e1, e2]
  all_goals simp [rowU]
/-! ### what the law builds -/
end C
namespace C
open PySem L2 D
def b_l_hand : DS := (sSeq (sSet 2 (bin ix2 (bin add2 (slD (var 0) (soO (var 1)) (soO (bin add2 (var 1) (cst (.int 1))))) (appN szL (acons (cst (.int 0)) anil))) (cst (.int 0)))) (sSeq (sSet 3 (bin mod2 (bin mul2 (bin add2 (bin add2 (bin mod2 (var 2) (cst (.int 2147483647))) (bin mul2 (cst (.int 7919)) (var 1))) (cst (.int 1))) (cst (.int 48271))) (cst (.int 2147483629)))) (sSeq (sRet (refL (szDL (acons (bin mul2 (appN intN (acons (bin ge2 (var 2) (bin pow2 (cst (.int 10)) (cst (.int 18)))) anil)) (var 2)) (acons (var 3) anil))))) sNil)))
def f_l_hand : List U → Store → Rs U := runB 4 2 b_l_hand
def b_l_draw : DS := (sSeq (sIf (tst (bin gt2 (ixR (var 0) (cst (.int 0))) (cst (.int 0)))) (sSeq (sSet 2 (bin mod2 (ixR (var 0) (cst (.int 0))) (var 1))) (sSeq (sIxR (var 0) (cst (.int 0)) (bin fdiv2 (ixR (var 0) (cst (.int 0))) (var 1))) (sSeq (sRet (var 2)) sNil))) sNil) (sSeq (sIxR (var 0) (cst (.int 1)) (bin mod2 (bin add2 (bin mul2 (ixR (var 0) (cst (.int 1))) (cst (.int 48271))) (cst (.int 11))) (cst (.int 2147483647)))) (sSeq (sRet (bin mod2 (bin fdiv2 (bin mod2 (bin mul2 (ixR (var 0) (cst (.int 1))) (ixR (var 0) (cst (.int 1)))) (cst (.int 2147483629))) (cst (.int 64))) (var 1))) sNil)))
def f_l_draw : List U → Store → Rs U := runB 3 2 b_l_draw
/-- a hand: what is left of a cell, and a seed -/
def HandOb (ob : Ob) : Prop := ∃ a b : Int, ob = .lst [.int a, .int b] ∧ 0 ≤ a ∧ 0 ≤ b ∧ b < 2147483647
theorem draw_ok (n : Nat) (m : Int) (hm : 0 < m) (hm2 : m < 1073741824) (st : Store) (ob : Ob) (h : st[n]? = some ob) (ho : HandOb ob) :
    ∃ r ob', f_l_draw [.ref n, .int m] st = .ok (.int r) (st.set n ob') ∧ 0 ≤ r ∧ r < m ∧ HandOb ob' := by
  obtain ⟨a, b, rfl, ha, hb, hb2⟩ := ho
  have hn : n < st.length := (List.getElem?_eq_some_iff.mp h).1
  have gs : ∀ ob : Ob, (st.set n ob)[n]? = some ob := fun ob => List.getElem?_set_self hn
  clear hn
  have i0 : ixN 2 0 = some 0 := rfl
  have i1 : ixN 2 1 = some 1 := rfl
  have a0 : ∀ x y : U, atI [x, y] 0 = some x := fun _ _ => rfl
  have a1 : ∀ x y : U, atI [x, y] 1 = some y := fun _ _ => rfl
  have hmo : ∀ x : Int, mod2 (.int x) (.int m) = some (.int (x % m)) := fun x => by
    show (if _ then _ else _) = _
    rw [if_pos hm]
  have hfd : fdiv2 (.int a) (.int m) = some (.int (a / m)) := by
    show (if _ then _ else _) = _
    rw [if_pos ⟨hm, hm2⟩]
  unfold f_l_draw b_l_draw
  by_cases q : 0 < a
  · refine ⟨a % m, .lst [.int (a / m), .int b], ?_, Int.emod_nonneg _ (by omega), Int.emod_lt_of_pos _ hm, a / m, b, rfl, Int.ediv_nonneg ha (by omega), hb, hb2⟩
    simp [h, a0, q, hmo, hfd, i0]
  · obtain ⟨c, hc⟩ : ∃ c, c = (b * 48271 + 11) % 2147483647 := ⟨_, rfl⟩
    have c0 : 0 ≤ c := by rw [hc]; exact Int.emod_nonneg _ (by decide)
    have c1 : c < 2147483647 := by rw [hc]; exact Int.emod_lt_of_pos _ (by decide)
    have s1 : smallI b = true := by unfold smallI; simp; omega
    have s2 : smallI c = true := by unfold smallI; simp; omega
    refine ⟨c * c % 2147483629 / 64 % m, .lst [.int a, .int c], ?_, Int.emod_nonneg _ (by omega), Int.emod_lt_of_pos _ hm, a, c, rfl, ha, c0, c1⟩
    simp [h, a0, a1, q, hmo, i1, s1, ← hc, s2, gs]
theorem pow18' : pow2 (.int 10) (.int 18) = some (.int 1000000000000000000) := by simp [pow2]
theorem hand_ok (ns : List Int) (k : Nat) (hk : k ≤ 1000000) (st : Store) : ∃ ob, f_l_hand [.scr ns, .int (k : Int)] st = .ok (.ref st.length) (st ++ [ob]) ∧ HandOb ob := by
  obtain ⟨c, hc⟩ : ∃ c : Int, c = ((ns.drop k).take 1 ++ [0]).headD 0 := ⟨_, rfl⟩
  obtain ⟨sd, hsd⟩ : ∃ s : Int, s = (c % 2147483647 + 7919 * (k : Int) + 1) * 48271 % 2147483629 := ⟨_, rfl⟩
  refine ⟨.lst [.int (if 1000000000000000000 ≤ c then c else 0), .int sd], ?_, _, _, rfl, ?_, by rw [hsd]; exact Int.emod_nonneg _ (by decide), by rw [hsd]; have := Int.emod_lt_of_pos ((c % 2147483647 + 7919 * (k : Int) + 1) * 48271) (show (0 : Int) < 2147483629 by decide); omega⟩
  · obtain ⟨X, hX⟩ : ∃ X, X = (ns.drop k).take 1 := ⟨_, rfl⟩
    have lX : X.length ≤ 1 := by rw [hX, List.length_take]; omega
    have cm : cutL ns (some (k : Int)) (some ((k : Int) + 1)) = X := by
      have e : ((k : Int) + 1) = ((k + 1 : Nat) : Int) := rfl
      rw [e, cutL_mid', hX]
      congr 1
      omega
    have ad : add2 (.lst (X.map U.int)) (.lst [.int 0]) = some (.lst (X.map U.int ++ [.int 0])) := by
      show (if _ then _ else _) = _
      rw [if_pos (by rw [sizeLine_eq, List.length_map]; simp; omega)]
    have ix : ix2 (.lst (X.map U.int ++ [.int 0])) (.int 0) = some (.int c) := by
      rw [hc, ← hX]
      cases X with
      | nil => rfl
      | cons x t => simp
    have s1 : smallI (c % 2147483647 + 7919 * (k : Int) + 1) = true := by
      have a1 := Int.emod_nonneg c (show (2147483647 : Int) ≠ 0 by decide)
      have a2 := Int.emod_lt_of_pos c (show (0 : Int) < 2147483647 by decide)
      unfold smallI
      simp
      omega
    have s2 : smallI (k : Int) = true := by unfold smallI; simp; omega
    have s0 : smallI 1 = true := by decide
    have s3 : smallI 0 = true := by decide
    unfold f_l_hand b_l_hand
    generalize hA : U.lst (X.map U.int) = A at *
    by_cases q : 1000000000000000000 ≤ c
    · simp [cm, hA, ad, ix, pow18', s1, s2, ← hsd, q, s0, -add_lsts]
    · simp [cm, hA, ad, ix, pow18', s1, s2, ← hsd, q, s3, -add_lsts]
  · split <;> omega
end C
/-! YA: going through code that draws from a hand of the store -/
namespace G2
open PySem L2 D C
/-- the hand at n has been drawn from; all else of the store stands -/
structure Keep (n : Nat) (st st' : Store) : Prop where
  len : st'.length = st.length
  oth : ∀ m, m ≠ n → st'[m]? = st[m]?
  hand : ∃ ob, st'[n]? = some ob ∧ HandOb ob
def Hs (n : Nat) (st : Store) : Prop := ∃ ob, st[n]? = some ob ∧ HandOb ob
theorem Keep.refl {n : Nat} {st : Store} (h : Hs n st) : Keep n st st := ⟨rfl, fun _ _ => rfl, h⟩
theorem Keep.hs {n : Nat} {st st' : Store} (k : Keep n st st') : Hs n st' := k.hand
theorem Keep.trans {n : Nat} {st st1 st2 : Store} (a : Keep n st st1) (b : Keep n st1 st2) : Keep n st st2 := ⟨by rw [b.len, a.len], fun m h => by rw [b.oth m h, a.oth m h], b.hand⟩
def Dr {A : Type} (n : Nat) (st : Store) (P : A → Prop) (r : Rs A) : Prop := ∃ a st', r = .ok a st' ∧ Keep n st st' ∧ P a
section
variable {A B : Type} {n : Nat} {st : Store}
theorem Dr.ok {P : A → Prop} {a : A} (h : Hs n st) (p : P a) : Dr n st P (.ok a st) := ⟨a, st, rfl, .refl h, p⟩
theorem Dr.of {P : A → Prop} {r : Rs A} {a : A} (h : Hs n st) (e : r = .ok a st) (p : P a) : Dr n st P r := by rw [e]; exact .ok h p
theorem Dr.imp {P Q : A → Prop} {r : Rs A} (d : Dr n st P r) (h : ∀ a, P a → Q a) : Dr n st Q r := let ⟨a, s, e, k, p⟩ := d; ⟨a, s, e, k, h a p⟩
theorem Dr.pre {P : A → Prop} {r : Rs A} {st0 : Store} (k : Keep n st0 st) (d : Dr n st P r) : Dr n st0 P r := let ⟨a, s, e, k2, p⟩ := d; ⟨a, s, e, k.trans k2, p⟩
theorem Dr.bind {P : A → Prop} {Q : B → Prop} {r : Rs A} {k : A → Store → Rs B} (d : Dr n st P r) (h : ∀ a st', Keep n st st' → P a → Dr n st' Q (k a st')) : Dr n st Q (r.bind k) := by
  obtain ⟨a, s, rfl, k1, p⟩ := d
  exact (h a s k1 p).pre k1
theorem Dr.out {P : A → Prop} {Q : U → Prop} {r : Rs A} {env : D.Env} {k : A → Store → Out} {rest : DS} (d : Dr n st P r) (h : ∀ a st', Keep n st st' → P a → Dr n st' Q (fin ((k a st').seq rest))) : Dr n st Q (fin ((r.out env k).seq rest)) := by
  obtain ⟨a, s, rfl, k1, p⟩ := d
  exact (h a s k1 p).pre k1
end
section
variable {n : Nat} {st : Store} {env : D.Env} {P : U → Prop}
theorem hs_of {n : Nat} {st : Store} {P : U → Prop} {r : Rs U} (d : Dr n st P r) : True := trivial
/-- one draw -/
theorem draw (h : Hs n st) {m : Int} (hm : 0 < m) (hm2 : m < 1073741824) : Dr n st (fun u => ∃ r : Nat, u = .int (r : Int) ∧ (r : Int) < m) (f_l_draw [.ref n, .int m] st) := by
  obtain ⟨ob, e, ho⟩ := h
  obtain ⟨r, ob', e1, h0, h1, ho'⟩ := draw_ok n m hm hm2 st ob e ho
  obtain ⟨k, rfl⟩ := Int.eq_ofNat_of_zero_le h0
  have hn : n < st.length := (List.getElem?_eq_some_iff.mp e).1
  exact ⟨_, _, e1, ⟨List.length_set .., fun m h => List.getElem?_set_ne (Ne.symm h), ob', List.getElem?_set_self hn, ho'⟩, k, rfl, h1⟩
/-! expressions -/
def DrE (n : Nat) (st : Store) (env : D.Env) (P : U → Prop) (e : DE) : Prop := Dr n st P (e env st)
theorem e_of {u : U} {e : DE} (h : Hs n st) (q : e env st = .ok u st) (p : P u) : DrE n st env P e := Dr.of h q p
theorem e_drawV {v : DE} {m : Int} (h : Hs n st) (h0 : ∀ st', var 0 env st' = .ok (.ref n) st') (hv : ∀ st', v env st' = .ok (.int m) st') (hm : 0 < m) (hm2 : m < 1073741824) : DrE n st env (fun u => ∃ r : Nat, u = .int (r : Int) ∧ (r : Int) < m) (appU f_l_draw (acons (var 0) (acons v anil))) := by
  show Dr n st _ (appU f_l_draw (acons (var 0) (acons v anil)) env st)
  simp only [appU_ap, acons_ap, anil_ap, h0, hv, bind_ok]
  exact draw h hm hm2
theorem e_bin {Q R : U → Prop} {g : U → U → Option U} {a b : DE} (ha : DrE n st env Q a) (hb : ∀ u st', Keep n st st' → Q u → DrE n st' env R b) (hg : ∀ u v, Q u → R v → ∃ w, g u v = some w ∧ P w) : DrE n st env P (bin g a b) := by
  show Dr n st P (bin g a b env st)
  rw [bin_ap]
  refine Dr.bind ha fun u s1 k1 q => Dr.bind (hb u s1 k1 q) fun v s2 k2 r => ?_
  obtain ⟨w, e, p⟩ := hg u v q r
  rw [e]
  exact .ok k2.hs p
def DrA (n : Nat) (st : Store) (env : D.Env) (P : List U → Prop) (e : DA) : Prop := Dr n st P (e env st)
theorem a_nilD {P : List U → Prop} (h : Hs n st) (p : P []) : DrA n st env P anil := Dr.of h (anil_ap _ _) p
theorem a_consD {Q : U → Prop} {R P : List U → Prop} {a : DE} {b : DA} (ha : DrE n st env Q a) (hb : ∀ u st', Keep n st st' → Q u → DrA n st' env (fun us => P (u :: us)) b) : DrA n st env P (acons a b) := by
  show Dr n st P (acons a b env st)
  rw [acons_ap]
  refine Dr.bind ha fun u s1 k1 q => Dr.bind (hb u s1 k1 q) fun v s2 k2 r => .ok k2.hs r
theorem e_appN {Q : List U → Prop} {g : List U → Option U} {a : DA} (ha : DrA n st env Q a) (hg : ∀ us, Q us → ∃ w, g us = some w ∧ P w) : DrE n st env P (appN g a) := by
  show Dr n st P (appN g a env st)
  rw [appN_ap]
  refine Dr.bind ha fun u s1 k1 q => ?_
  obtain ⟨w, e, p⟩ := hg u q
  rw [e]
  exact .ok k1.hs p
theorem e_appU {Q : List U → Prop} {g : List U → Store → Rs U} {a : DA} (ha : DrA n st env Q a) (hg : ∀ us st', Keep n st st' → Q us → Dr n st' P (g us st')) : DrE n st env P (appU g a) := by
  show Dr n st P (appU g a env st)
  rw [appU_ap]
  exact Dr.bind ha fun u s1 k1 q => hg u s1 k1 q
/-! statements; the end of a def's body -/
def DrF (n : Nat) (st : Store) (env : D.Env) (P : U → Prop) (s : DS) : Prop := Dr n st P (fin (s env st))
theorem f_set {Q : U → Prop} {i : Nat} {f : DE} {rest : DS} (h : DrE n st env Q f) (k : ∀ u st', Keep n st st' → Q u → DrF n st' (env.set i (.val u)) P rest) : DrF n st env P (sSeq (sSet i f) rest) := by
  show Dr n st P (fin (sSeq (sSet i f) rest env st))
  rw [sSeq_ap, sSet_ap]
  exact Dr.out h fun u s1 k1 q => k u s1 k1 q
theorem f_ret {f : DE} {rest : DS} (h : DrE n st env P f) : DrF n st env P (sSeq (sRet f) rest) := by
  show Dr n st P (fin (sSeq (sRet f) rest env st))
  rw [sSeq_ap, sRet_ap]
  exact Dr.out h fun u s1 k1 q => .ok k1.hs q
theorem f_unp {Q : U → Prop} {t : Tg} {f : DE} {rest : DS} (h : DrE n st env Q f) (k : ∀ u st', Keep n st st' → Q u → ∃ l, t u = some l ∧ DrF n st' (setE env l) P rest) : DrF n st env P (sSeq (sUnp t f) rest) := by
  show Dr n st P (fin (sSeq (sUnp t f) rest env st))
  rw [sSeq_ap]
  unfold sUnp
  refine Dr.out h fun u s1 k1 q => ?_
  obtain ⟨l, e, d⟩ := k u s1 k1 q
  simp only [e]
  exact d
/-- if c: return e -/
theorem f_if {c : DT} {f : DE} {rest : DS} (hc : Dr n st (fun _ : Bool => True) (c env st)) (k : ∀ b st', Keep n st st' → c env st = .ok b st' → if b = true then DrE n st' env P f else DrF n st' env P rest) : DrF n st env P (sSeq (sIf c (sSeq (sRet f) sNil) sNil) rest) := by
  obtain ⟨b, s1, e, k1, _⟩ := hc
  have h := k b s1 k1 e
  show Dr n st P (fin (sSeq (sIf c (sSeq (sRet f) sNil) sNil) rest env st))
  rw [sSeq_ap, sIf_ap, e, out_ok]
  cases b with
  | true =>
    rw [if_pos rfl] at h ⊢
    rw [sSeq_ap, sRet_ap]
    obtain ⟨u, s2, e2, k2, p⟩ := h
    rw [e2]
    exact ⟨u, s2, rfl, k1.trans k2, p⟩
  | false =>
    rw [if_neg Bool.false_ne_true] at h ⊢
    exact Dr.pre k1 h
/-- if c: body that ends -/
theorem f_ifB {c : DT} {f rest : DS} (hc : Dr n st (fun _ : Bool => True) (c env st)) (k : ∀ b st', Keep n st st' → c env st = .ok b st' → if b = true then ∃ u s, f env st' = .rt u s ∧ Keep n st' s ∧ P u else DrF n st' env P rest) : DrF n st env P (sSeq (sIf c f sNil) rest) := by
  obtain ⟨b, s1, e, k1, _⟩ := hc
  have h := k b s1 k1 e
  show Dr n st P (fin (sSeq (sIf c f sNil) rest env st))
  rw [sSeq_ap, sIf_ap, e, out_ok]
  cases b with
  | true =>
    rw [if_pos rfl] at h ⊢
    obtain ⟨u, s2, e2, k2, p⟩ := h
    rw [e2]
    exact ⟨u, s2, rfl, k1.trans k2, p⟩
  | false =>
    rw [if_neg Bool.false_ne_true] at h ⊢
    exact Dr.pre k1 h
theorem rt_of {f : DS} (h : DrF n st env P f) (hr : ∀ u s, fin (f env st) = .ok u s → ∃ u' s', f env st = .rt u' s') : ∃ u s, f env st = .rt u s ∧ Keep n st s ∧ P u := by
  obtain ⟨u, s, e, k, p⟩ := h
  obtain ⟨u', s', e'⟩ := hr u s e
  rw [e'] at e
  cases e
  exact ⟨u, s, e', k, p⟩
end
/-! comprehensions -/
theorem comp_dr {T : Type} {n : Nat} {t : Tg} {e : DE} {env : D.Env} {f : T → U} {P : U → Prop} : ∀ (l : List T) (st : Store), Hs n st → (∀ x ∈ l, ∃ a, t (f x) = some a ∧ ∀ st, Hs n st → Dr n st P (e (setE env a) st)) → Dr n st (fun us => us.length = l.length ∧ ∀ u ∈ us, P u) (compL t yesT e (l.map f) env st)
  | [], st, h, _ => Dr.of h (comp_nil ..) ⟨rfl, fun _ z => nomatch z⟩
  | x :: l, st, h, hs => by
    obtain ⟨a, e1, e2⟩ := hs x (List.mem_cons_self ..)
    rw [List.map_cons, comp_cons, e1]
    simp only [yesT_ap, bind_ok, if_true]
    refine Dr.bind (e2 st h) fun u s1 k1 p => Dr.bind (comp_dr l s1 k1.hs fun y hy => hs y (List.mem_cons_of_mem _ hy)) fun us s2 k2 q => .ok k2.hs ⟨by simp [q.1], fun v hv => ?_⟩
    rcases List.mem_cons.mp hv with rfl | hv
    · exact p
    · exact q.2 v hv
/-- each thing kept or not by a draw -/
theorem comp_drF {T : Type} {n : Nat} {t : Tg} {c : DT} {e : DE} {env : D.Env} {f : T → U} : ∀ (l : List T) (st : Store), Hs n st → (∀ x ∈ l, ∃ a, t (f x) = some a ∧ (∀ st, Hs n st → Dr n st (fun _ => True) (c (setE env a) st)) ∧ ∀ st, e (setE env a) st = .ok (f x) st) → Dr n st (fun us => ∃ r : List T, r.Sublist l ∧ us = r.map f) (compL t c e (l.map f) env st)
  | [], st, h, _ => Dr.of h (comp_nil ..) ⟨[], List.Sublist.refl _, rfl⟩
  | x :: l, st, h, hs => by
    obtain ⟨a, e1, e2, e3⟩ := hs x (List.mem_cons_self ..)
    rw [List.map_cons, comp_cons, e1]
    simp only
    refine Dr.bind (e2 st h) fun b s1 k1 _ => ?_
    have ih := comp_drF l s1 k1.hs fun y hy => hs y (List.mem_cons_of_mem _ hy)
    cases b with
    | true =>
      simp only [if_true, e3, bind_ok]
      exact Dr.bind ih fun us s2 k2 ⟨r, q1, q2⟩ => .ok k2.hs ⟨x :: r, q1.cons₂ x, by rw [q2]; rfl⟩
    | false =>
      simp only [Bool.false_eq_true, if_false]
      exact ih.imp fun us ⟨r, q1, q2⟩ => ⟨r, q1.cons x, q2⟩
end G2
/-! YB: the words, some of them, args -/
namespace G2
open PySem L2 D C
def b_l_some : DS := (sSeq (sRet (appN tupN (acons (newL (itE sortTxt (newL (compD (itemsD (var 1)) [3] (tgN 3) (tst (bin lt2 (appU f_l_draw (acons (var 0) (acons (cst (.int 4)) anil))) (var 2))) (var 3))))) anil))) sNil)
def f_l_some : List U → Store → Rs U := runB 4 3 b_l_some
def b_l_words : DS := (sSeq (sSet 2 (cst (.str (Str.ofString "abcdefghijklmnopqrstuvwxyz")))) (sSeq (sSet 3 (appU f_l_draw (acons (var 0) (acons (cst (.int 26)) anil)))) (sSeq (sIf (tst (bin eq2 (appU f_l_draw (acons (var 0) (acons (cst (.int 3)) anil))) (cst (.int 0)))) (sSeq (sSet 5 (joinD (cst (.str (Str.ofString ""))) (newL (compD (itA rng1 (acons (cst (.int 8)) anil)) [7] (tgN 7) yesT (bin ix2 (var 2) (bin mod2 (bin add2 (var 3) (bin mul2 (cst (.int 5)) (var 7))) (cst (.int 26)))))))) (sSeq (sRet (newL (compD (itA rng1 (acons (var 1) anil)) [6] (tgN 6) yesT (slD (var 5) noO (soO (bin add2 (cst (.int 1)) (var 6))))))) sNil)) sNil) (sSeq (sSet 4 (bin ix2 (appN szL (acons (cst (.str (Str.ofString ""))) (acons (cst (.str (Str.ofString "o"))) (acons (cst (.str (Str.ofString "mine"))) (acons (cst (.str (Str.ofString "zzzzzzz"))) anil))))) (appU f_l_draw (acons (var 0) (acons (cst (.int 4)) anil))))) (sSeq (sRet (newL (compD (itA rng1 (acons (var 1) anil)) [6] (tgN 6) yesT (bin add2 (bin ix2 (var 2) (bin mod2 (bin add2 (var 3) (bin mul2 (cst (.int 3)) (var 6))) (cst (.int 26)))) (var 4))))) sNil)))))
def f_l_words : List U → Store → Rs U := runB 8 2 b_l_words
def b_l_args : DS := (sSeq (sRet (appN tupN (acons (newL (compD (itA rng1 (acons (var 2) anil)) [3] (tgN 3) yesT (bin ix2 (var 1) (appU f_l_draw (acons (var 0) (acons (cst (.int 6)) anil)))))) anil))) sNil)
def f_l_args : List U → Store → Rs U := runB 4 3 b_l_args
/-! letters -/
def abc : Str := Str.ofString "abcdefghijklmnopqrstuvwxyz"
def ch (i : Nat) : Str := ⟨#[97 + i]⟩
theorem abc_get : ∀ k < 26, abc.cps.getD k 0 = 97 + k := by decide +kernel
theorem abc_at (k : Nat) (h : k < 26) : ix2 (.str abc) (.int (k : Int)) = some (.str (ch k)) := by
  rw [str_ix abc k (Nat.lt_of_lt_of_le h (by decide +kernel)) (by decide +kernel), abc_get k h]
  rfl
theorem let_mem : ∀ i < 26, 97 + i ∈ letters := by decide +kernel
theorem str_ext {x y : Str} (h : x.cps.toList = y.cps.toList) : x = y := by
  obtain ⟨⟨a⟩⟩ := x
  obtain ⟨⟨b⟩⟩ := y
  have h : a = b := h
  rw [h]
def wA (f : Nat) : List Nat := (List.range 8).map fun j => 97 + (f + 5 * j) % 26
def wordA (f k : Nat) : Str := ⟨((wA f).take (1 + k)).toArray⟩
def wordB (f : Nat) (tail : Str) (k : Nat) : Str := ch ((f + 3 * k) % 26) ++ tail
theorem isWord_list (l : List Nat) (h1 : 1 ≤ l.length) (h2 : l.length ≤ 8) (h3 : ∀ c ∈ l, c ∈ letters) : isWordS ⟨l.toArray⟩ = true := by
  unfold isWordS
  have e : (⟨l.toArray⟩ : Str).length = l.length := by simp [Str.length]
  rw [e, decide_eq_true h1, decide_eq_true h2]
  simp only [Bool.true_and, List.all_eq_true]
  intro c hc
  exact decide_eq_true (h3 c (by simpa using hc))
theorem wA_len (f : Nat) : (wA f).length = 8 := by unfold wA; simp
theorem wA_let (f : Nat) : ∀ c ∈ wA f, c ∈ letters := fun c hc => by
  unfold wA at hc
  obtain ⟨j, _, rfl⟩ := List.mem_map.mp hc
  exact let_mem _ (Nat.mod_lt _ (by decide))
theorem wordA_ok (f k : Nat) (hk : k < 8) : isWordS (wordA f k) = true := by
  refine isWord_list _ ?_ ?_ fun c hc => wA_let f c (List.mem_of_mem_take hc)
  · rw [List.length_take, wA_len]; omega
  · rw [List.length_take, wA_len]; omega
theorem wordA_len (f k : Nat) (hk : k < 8) : (wordA f k).length = 1 + k := by
  show ((wA f).take (1 + k)).toArray.size = _
  rw [List.size_toArray, List.length_take, wA_len]; omega
def tails : List Str := [Str.ofString "", Str.ofString "o", Str.ofString "mine", Str.ofString "zzzzzzz"]
theorem tails_ok : ∀ t ∈ tails, t.cps.toList.length ≤ 7 ∧ ∀ c ∈ t.cps.toList, c ∈ letters := by decide +kernel
theorem wordB_list (f k : Nat) (t : Str) : wordB f t k = ⟨((97 + (f + 3 * k) % 26) :: t.cps.toList).toArray⟩ := by
  apply str_ext
  show (ch _ ++ t).cps.toList = _
  have := TL.tl_append (ch ((f + 3 * k) % 26)) t
  exact this
theorem wordB_ok (f k : Nat) (t : Str) (ht : t ∈ tails) : isWordS (wordB f t k) = true := by
  rw [wordB_list]
  obtain ⟨h1, h2⟩ := tails_ok t ht
  refine isWord_list _ (by simp) (by simp only [List.length_cons]; omega) fun c hc => ?_
  rcases List.mem_cons.mp hc with rfl | hc
  · exact let_mem _ (Nat.mod_lt _ (by decide))
  · exact h2 c hc
/-- so many words, all unlike -/
structure WOk (m : Nat) (ws : List Str) : Prop where
  len : ws.length = m
  nd : ws.Nodup
  word : ∀ w ∈ ws, isWordS w = true
theorem nodup_map {A B : Type} {f : A → B} : ∀ {l : List A}, l.Nodup → (∀ a ∈ l, ∀ b ∈ l, f a = f b → a = b) → (l.map f).Nodup
  | [], _, _ => List.nodup_nil
  | a :: l, nd, h => by
    rw [List.nodup_cons] at nd
    rw [List.map_cons, List.nodup_cons]
    refine ⟨fun z => ?_, nodup_map nd.2 fun x hx y hy => h x (List.mem_cons_of_mem _ hx) y (List.mem_cons_of_mem _ hy)⟩
    obtain ⟨b, hb, e⟩ := List.mem_map.mp z
    have := h b (List.mem_cons_of_mem _ hb) a (List.mem_cons_self ..) e
    subst this
    exact nd.1 hb
theorem wordsA_ok (f m : Nat) (hm : m ≤ 8) : WOk m ((List.range m).map (wordA f)) := by
  refine ⟨by simp, nodup_map List.nodup_range fun a ha b hb e => ?_, fun w hw => ?_⟩
  · have ha := List.mem_range.mp ha
    have hb := List.mem_range.mp hb
    have := congrArg Str.length e
    rw [wordA_len f a (by omega), wordA_len f b (by omega)] at this
    omega
  · obtain ⟨k, hk, rfl⟩ := List.mem_map.mp hw
    exact wordA_ok f k (by have := List.mem_range.mp hk; omega)
theorem wordsB_ok (f m : Nat) (hm : m ≤ 8) (t : Str) (ht : t ∈ tails) : WOk m ((List.range m).map (wordB f t)) := by
  refine ⟨by simp, nodup_map List.nodup_range fun a ha b hb e => ?_, fun w hw => ?_⟩
  · have ha := List.mem_range.mp ha
    have hb := List.mem_range.mp hb
    rw [wordB_list, wordB_list] at e
    have e2 := congrArg (fun s : Str => s.cps.toList.head?) e
    simp only [List.head?_cons, Option.some.injEq] at e2
    omega
  · obtain ⟨k, hk, rfl⟩ := List.mem_map.mp hw
    exact wordB_ok f k t ht
theorem t_draw {n : Nat} {st : Store} {env : D.Env} {m z : Int} (h : Hs n st) (h0 : ∀ st', var 0 env st' = .ok (.ref n) st') (hm : 0 < m) (hm2 : m < 1073741824) : Dr n st (fun _ : Bool => True) (tst (bin eq2 (appU f_l_draw (acons (var 0) (acons (cst (.int m)) anil))) (cst (.int z))) env st) := by
  rw [tst_ap, bin_ap]
  have d := e_drawV (n := n) (env := env) (v := cst (.int m)) h h0 (fun st' => cst_ap _ _ _) hm hm2
  refine Dr.bind (P := fun u => ∃ b : Bool, u = .bl b) (Dr.bind d fun u s k q => ?_) fun u s k q => ?_
  · obtain ⟨r, rfl, _⟩ := q
    simp only [cst_ap, bind_ok]
    exact Dr.of k.hs (show Rs.of (eq2 (.int (r : Int)) (.int z)) s = .ok (.bl (decide ((r : Int) = z))) s by simp) ⟨_, rfl⟩
  · obtain ⟨b, rfl⟩ := q
    exact .ok k.hs trivial
set_option maxHeartbeats 4000000 in
theorem words_ok (n m : Nat) (hm : m ≤ 8) (st : Store) (h : Hs n st) : Dr n st (fun u => ∃ ws, u = lS ws ∧ WOk m ws) (f_l_words [.ref n, .int (m : Int)] st) := by
  have rm := rng1_nat m (by omega)
  have r8 : rng1 [U.int 8] = some ((List.range 8).map fun i => U.int (i : Nat)) := rng1_nat 8 (by decide)
  have sm5 : smallI 5 = true := smallI_of (by decide) (by decide)
  have sm3 : smallI 3 = true := smallI_of (by decide) (by decide)
  show DrF n st [.val (.ref n), .val (.int (m : Int)), .un, .un, .un, .un, .un, .un] _ b_l_words
  unfold b_l_words
  refine f_set (Q := fun u => u = .str abc) (e_of h (cst_ap _ _ _) rfl) fun u s1 k1 e => ?_
  subst e
  simp only [List.set_cons_succ, List.set_cons_zero]
  refine f_set (e_drawV k1.hs (fun _ => rfl) (fun _ => rfl) (by decide) (by decide)) fun u s2 k2 e => ?_
  obtain ⟨f, rfl, hf⟩ := e
  simp only [List.set_cons_succ, List.set_cons_zero]
  have atL : ∀ x : Nat, ix2 (.str abc) (.int ((x % 26 : Nat) : Int)) = some (.str (ch (x % 26))) := fun x => abc_at _ (Nat.mod_lt _ (by decide))
  refine f_ifB (t_draw k2.hs (fun _ => rfl) (by decide) (by decide)) fun b s3 k3 _ => ?_
  cases b with
  | true =>
    rw [if_pos rfl]
    have c8 : compL (tgN 7) yesT (bin ix2 (var 2) (bin mod2 (bin add2 (var 3) (bin mul2 (cst (.int 5)) (var 7))) (cst (.int 26)))) ((List.range 8).map fun i => U.int (i : Nat)) [.val (.ref n), .val (.int (m : Int)), .val (.str abc), .val (.int (f : Int)), .un, .un, .un, .un] s3 = .ok (((List.range 8).map fun j => ch ((f + 5 * j) % 26)).map U.str) s3 := by
      rw [List.map_map]
      exact comp_allM (List.range 8) fun j hj => ⟨_, rfl, by
        have := atL (f + 5 * j)
        rw [show (((f + 5 * j) % 26 : Nat) : Int) = ((f : Int) + 5 * (j : Int)) % 26 by omega] at this
        generalize U.str abc = AA at *
        simp [sm5, this]⟩
    have jn : join2 (Str.ofString "") (.lst (((List.range 8).map fun j => ch ((f + 5 * j) % 26)).map U.str)) = some (.str ⟨(wA f).toArray⟩) := by
      unfold join2
      show (strsU (((List.range 8).map fun j => ch ((f + 5 * j) % 26)).map U.str)).bind _ = _
      rw [strs_map]
      have e1 : Txt.join (Str.ofString "") ((List.range 8).map fun j => ch ((f + 5 * j) % 26)) = ⟨(wA f).toArray⟩ := by
        apply str_ext
        rw [TL.join_eq]
        have := TL.tl_join (Str.ofString "") ((List.range 8).map fun j => ch ((f + 5 * j) % 26))
        exact this
      have hz : ((((List.range 8).map fun j => ch ((f + 5 * j) % 26)).map (·.length)).sum + ((List.range 8).map fun j => ch ((f + 5 * j) % 26)).length * (Str.ofString "").length ≤ 16777216) := by
        have : (((List.range 8).map fun j => ch ((f + 5 * j) % 26)).map (·.length)).sum = 8 := rfl
        rw [this, List.length_map, List.length_range]
        decide +kernel
      simp only [Option.bind_some, e1, if_pos hz]
    have cm : ∀ s4 : Store, compL (tgN 6) yesT (slD (var 5) noO (soO (bin add2 (cst (.int 1)) (var 6)))) ((List.range m).map fun i => U.int (i : Nat)) [.val (.ref n), .val (.int (m : Int)), .val (.str abc), .val (.int (f : Int)), .un, .val (.str ⟨(wA f).toArray⟩), .un, .un] s4 = .ok (((List.range m).map (wordA f)).map U.str) s4 := fun s4 => by
      rw [List.map_map]
      exact comp_allM (List.range m) fun j hj => ⟨_, rfl, by
        have hj := List.mem_range.mp hj
        have hl : (⟨(wA f).toArray⟩ : Str).length = 8 := by show (wA f).toArray.size = 8; rw [List.size_toArray, wA_len]
        have hc : cutS ⟨(wA f).toArray⟩ none (some (1 + (j : Int))) = wordA f j := by
          apply str_ext
          have := cutL_to (wA f) (1 + j)
          rw [show ((1 + j : Nat) : Int) = 1 + (j : Int) by omega] at this
          unfold cutL at this
          unfold cutS
          rw [hl]
          rw [wA_len] at this
          simpa [wordA] using this
        have hl' : (⟨(wA f).toArray⟩ : Str).length ≤ 16777216 := by rw [hl]; decide
        generalize (⟨(wA f).toArray⟩ : Str) = WW at *
        simp [hl', hc]⟩
    refine ⟨lS ((List.range m).map (wordA f)), s3, ?_, .refl k3.hs, _, rfl, wordsA_ok f m hm⟩
    have hmz : m ≤ 16777216 := by omega
    generalize hRM : ((List.range m).map fun i => U.int (i : Nat)) = RM at *
    generalize hR8 : ((List.range 8).map fun i => U.int (i : Nat)) = R8 at *
    generalize hL : (((List.range 8).map fun j => ch ((f + 5 * j) % 26)).map U.str) = L8 at *
    generalize hLm : ((List.range m).map (wordA f)).map U.str = LM at *
    have lm : RM.length ≤ 16777216 := by rw [← hRM, List.length_map, List.length_range]; omega
    have l8 : R8.length ≤ 16777216 := by rw [← hR8, List.length_map, List.length_range]; decide
    generalize (⟨(wA f).toArray⟩ : Str) = WW at *
    have hS : lS ((List.range m).map (wordA f)) = .lst LM := by rw [← hLm]
    rw [hS]
    generalize Str.ofString "" = EE at *
    simp [r8, rm, lm, l8, wipeE, c8, jn, cm]
  | false =>
    rw [if_neg Bool.false_ne_true]
    refine f_set (Q := fun u => ∃ t ∈ tails, u = .str t) (e_bin (Q := fun u => u = .lst (tails.map U.str)) (e_of k3.hs (by rfl) rfl) (fun u s k _ => e_drawV k.hs (fun _ => rfl) (fun _ => rfl) (by decide) (by decide)) fun u v hu hv => ?_) fun u s4 k4 e => ?_
    · subst hu
      obtain ⟨r, rfl, hr⟩ := hv
      obtain ⟨t, ht, e⟩ := pick tails (r : Int) (by omega) hr
      exact ⟨.str t, atI_map U.str e, t, ht, rfl⟩
    · obtain ⟨t, ht, rfl⟩ := e
      simp only [List.set_cons_succ, List.set_cons_zero]
      have cm : compL (tgN 6) yesT (bin add2 (bin ix2 (var 2) (bin mod2 (bin add2 (var 3) (bin mul2 (cst (.int 3)) (var 6))) (cst (.int 26)))) (var 4)) ((List.range m).map fun i => U.int (i : Nat)) [.val (.ref n), .val (.int (m : Int)), .val (.str abc), .val (.int (f : Int)), .val (.str t), .un, .un, .un] s4 = .ok (((List.range m).map (wordB f t)).map U.str) s4 := by
        rw [List.map_map]
        exact comp_allM (List.range m) fun j hj => ⟨_, rfl, by
          have := atL (f + 3 * j)
          rw [show (((f + 3 * j) % 26 : Nat) : Int) = ((f : Int) + 3 * (j : Int)) % 26 by omega] at this
          have hl : (ch ((f + 3 * j) % 26)).length + t.length ≤ 16777216 := by
            have h1 : (ch ((f + 3 * j) % 26)).length = 1 := rfl
            have h2 := (tails_ok t ht).1
            have h3 : t.length = t.cps.toList.length := by simp [Str.length]
            omega
          generalize U.str abc = AA at *
          simp [sm3, this, hl, wordB]⟩
      refine f_ret (e_of k4.hs ?_ ⟨_, rfl, wordsB_ok f m hm t ht⟩)
      have lm : ((List.range m).map fun i => U.int (i : Nat)).length ≤ 16777216 := by rw [List.length_map, List.length_range]; omega
      generalize ((List.range m).map fun i => U.int (i : Nat)) = RM at *
      generalize hLm : ((List.range m).map (wordB f t)).map U.str = LM at *
      have hS : lS ((List.range m).map (wordB f t)) = .lst LM := by rw [← hLm]
      rw [hS]
      simp [rm, lm, wipeE, cm]
end G2
/-! YC: some words, args, heads -/
namespace G2
open PySem L2 D C
theorem sort_leaves {r : List Str} (hn : r.Nodup) (hw : ∀ w ∈ r, isWordS w = true) (hl : r.length ≤ 8) : leavesS (sortS r) = true := by
  have pm := sort_perm r
  have nd : (sortS r).Nodup := pm.nodup_iff.mpr hn
  unfold leavesS
  rw [areL_txt _ fun w h => hw w (pm.mem_iff.mp h), ded_id nd, sort_congr pm, pm.length_eq]
  simp [hl]
theorem some_ok (n : Nat) (ws : List Str) (hn : ws.Nodup) (hw : ∀ w ∈ ws, isWordS w = true) (hl : ws.length ≤ 8) (q : Int) (st : Store) (h : Hs n st) : Dr n st (fun u => ∃ ls, u = tS ls ∧ leavesS ls = true ∧ ∀ w ∈ ls, w ∈ ws) (f_l_some [.ref n, lS ws, .int q] st) := by
  obtain ⟨us, s, e, k, r, hr, rfl⟩ := comp_drF (n := n) (t := tgN 3) (c := tst (bin lt2 (appU f_l_draw (acons (var 0) (acons (cst (.int 4)) anil))) (var 2))) (e := var 3) (env := [.val (.ref n), .val (lS ws), .val (.int q), .un]) (f := U.str) ws st h (fun x hx => ⟨_, rfl, fun s hs => by
    rw [tst_ap, bin_ap]
    refine Dr.bind (P := fun u => ∃ b : Bool, u = .bl b) (Dr.bind (e_drawV (n := n) (v := cst (.int 4)) hs (fun _ => rfl) (fun _ => rfl) (by decide) (by decide)) fun u s' k q => ?_) fun u s' k q => ?_
    · obtain ⟨r, rfl, _⟩ := q
      exact Dr.of k.hs (show _ = Rs.ok (.bl (decide ((r : Int) < q))) s' by simp) ⟨_, rfl⟩
    · obtain ⟨b, rfl⟩ := q
      exact .ok k.hs trivial, fun s => rfl⟩)
  have rl : r.length ≤ 8 := Nat.le_trans hr.length_le hl
  have rw' : ∀ w ∈ r, isWordS w = true := fun w h => hw w (hr.subset h)
  refine ⟨tS (sortS r), s, ?_, k, sortS r, rfl, sort_leaves (hn.sublist hr) rw' rl, fun w hw => hr.subset ((sort_perm r).mem_iff.mp hw)⟩
  have so : sortTxt (.lst (r.map U.str)) = some ((sortS r).map U.str) := by
    unfold sortTxt
    simp only
    rw [strs_map]
    show (if _ then _ else _) = _
    rw [if_pos (by omega)]
  have lw : ws.length ≤ 16777216 := by omega
  have it : items (lS ws) = some (ws.map U.str) := rfl
  unfold f_l_some b_l_some
  generalize lS ws = W at *
  simp [it, lw, wipeE, e, so]
theorem args_ok (n : Nat) (pool : List Str) (hp : pool.length = 6) (m : Nat) (hm : m ≤ 1000) (st : Store) (h : Hs n st) : Dr n st (fun u => ∃ as, u = tS as ∧ as.length = m ∧ ∀ a ∈ as, a ∈ pool) (f_l_args [.ref n, lS pool, .int (m : Int)] st) := by
  have rm := rng1_nat m (by omega)
  obtain ⟨us, s, e, k, hl, hu⟩ := comp_dr (n := n) (t := tgN 3) (e := bin ix2 (var 1) (appU f_l_draw (acons (var 0) (acons (cst (.int 6)) anil)))) (env := [.val (.ref n), .val (lS pool), .val (.int (m : Int)), .un]) (f := fun i : Nat => U.int (i : Nat)) (P := fun u => ∃ a ∈ pool, u = .str a) (List.range m) st h (fun x hx => ⟨_, rfl, fun s hs => by
    refine e_bin (Q := fun u => u = lS pool) (e_of hs rfl rfl) (fun u s k _ => e_drawV k.hs (fun _ => rfl) (fun _ => rfl) (by decide) (by decide)) fun u v hu hv => ?_
    subst hu
    obtain ⟨r, rfl, hr⟩ := hv
    obtain ⟨t, ht, e⟩ := pick pool (r : Int) (by omega) (by rw [hp]; exact hr)
    exact ⟨.str t, atI_map U.str e, t, ht, rfl⟩⟩)
  obtain ⟨as, rfl, ha⟩ : ∃ as : List Str, us = as.map U.str ∧ ∀ a ∈ as, a ∈ pool := by
    clear e k hl
    induction us with
    | nil => exact ⟨[], rfl, fun _ z => nomatch z⟩
    | cons u us ih =>
      obtain ⟨as, rfl, ha⟩ := ih fun v hv => hu v (List.mem_cons_of_mem _ hv)
      obtain ⟨a, h1, rfl⟩ := hu u (List.mem_cons_self ..)
      exact ⟨a :: as, rfl, fun x hx => by
        rcases List.mem_cons.mp hx with rfl | hx
        · exact h1
        · exact ha x hx⟩
  rw [List.length_map, List.length_range] at hl
  refine ⟨tS as, s, ?_, k, as, rfl, hl, ha⟩
  have lm : ((List.range m).map fun i => U.int (i : Nat)).length ≤ 16777216 := by rw [List.length_map, List.length_range]; omega
  unfold f_l_args b_l_args
  generalize ((List.range m).map fun i => U.int (i : Nat)) = RM at *
  generalize lS pool = W at *
  simp [rm, lm, wipeE, e, tS]
/-- a loop with the store -/
theorem for_stL {T : Type} {t : Tg} {b : DS} {f : T → U} (I : List T → D.Env → Store → Prop) : ∀ (l : List T) (env : D.Env) (st : Store), I l env st → (∀ x r env st, x ∈ l → I (x :: r) env st → ∃ a env' st', t (f x) = some a ∧ b (setE env a) st = .nx env' st' ∧ I r env' st') → ∃ env' st', forL t b (l.map f) env st = .nx env' st' ∧ I [] env' st'
  | [], env, st, h, _ => ⟨env, st, rfl, h⟩
  | x :: l, env, st, h, step => by
    obtain ⟨a, env1, st1, h1, h2, h3⟩ := step x l env st (List.mem_cons_self ..) h
    obtain ⟨env2, st2, e, q⟩ := for_stL I l env1 st1 h3 fun y r env st hy => step y r env st (List.mem_cons_of_mem _ hy)
    exact ⟨env2, st2, by rw [List.map_cons, for_cons, h1]; simp only [h2]; exact e, q⟩
/-! ### heads -/
def t1_l_heads : DS := (sSeq (sSet 9 (appU f_l_draw (acons (var 2) (acons (cst (.int 6)) anil)))) (sSeq (sSet 10 (appN tupN (acons (slD (bin add2 (var 6) (var 6)) (soO (var 9)) (soO (bin add2 (var 9) (appU f_l_draw (acons (var 2) (acons (cst (.int 5)) anil)))))) anil))) (sSeq (sApp 7 (appN szT (acons (var 8) (acons (appU f_l_some (acons (var 2) (acons (var 5) (acons (cst (.int 3)) anil)))) (acons (var 10) anil))))) sNil)))
def b_l_heads : DS := (sSeq (sSet 2 (appU f_l_hand (acons (var 0) (acons (cst (.int 0)) anil)))) (sSeq (sSet 3 (bin add2 (cst (.int 1)) (appU f_l_draw (acons (var 2) (acons (var 1) anil))))) (sSeq (sSet 4 (appU f_l_words (acons (var 2) (acons (var 3) anil)))) (sSeq (sSet 5 (appU f_l_words (acons (var 2) (acons (bin add2 (cst (.int 1)) (appU f_l_draw (acons (var 2) (acons (cst (.int 8)) anil)))) anil)))) (sSeq (sSet 6 (appU f_l_words (acons (var 2) (acons (cst (.int 6)) anil)))) (sSeq (sOwn 7 (szDL anil)) (sSeq (sFor (itemsD (var 4)) (tgN 8) t1_l_heads) (sSeq (frzS 7 (sRet (appN szT (acons (var 7) (acons (var 5) (acons (var 6) anil)))))) sNil))))))))
def f_l_heads : List U → Store → Rs U := runB 11 2 b_l_heads
structure Hd where
  name : Str
  own : List Str
  params : List Str
def Hd.u (h : Hd) : U := .tup [.str h.name, tS h.own, tS h.params]
structure HdOk (R : List Str) (h : Hd) : Prop where
  name : isWordS h.name = true
  own : leavesS h.own = true
  sub : ∀ w ∈ h.own, w ∈ R
  params : argsS h.params = true
  nd : h.params.Nodup
structure Kit where
  heads : List Hd
  roster : List Str
  pool : List Str
def Kit.u (k : Kit) : U := .tup [.lst (k.heads.map Hd.u), lS k.roster, lS k.pool]
structure KitOk (k : Kit) : Prop where
  len : 1 ≤ k.heads.length
  len2 : k.heads.length ≤ 8
  heads : ∀ h ∈ k.heads, HdOk k.roster h
  nd : (k.heads.map Hd.name).Nodup
  r1 : 1 ≤ k.roster.length
  r2 : k.roster.length ≤ 8
  rnd : k.roster.Nodup
  rw_ : ∀ w ∈ k.roster, isWordS w = true
  p1 : k.pool.length = 6
  pw : ∀ w ∈ k.pool, isWordS w = true
theorem cyc {A : Type} (l : List A) (hn : l.Nodup) (f d : Nat) (hf : f ≤ l.length) (hd : d ≤ l.length) : (((l ++ l).drop f).take d).Nodup := by
  have e1 : (l ++ l).drop f = l.drop f ++ l := by rw [List.drop_append_of_le_length hf]
  rw [e1, List.take_append]
  have s1 : ((l.drop f).take d ++ l.take (d - (l.drop f).length)).Sublist (l.drop f ++ l.take f) := by
    refine List.Sublist.append (List.take_sublist _ _) ?_
    rw [List.length_drop]
    have : d - (l.length - f) ≤ f := by omega
    exact List.take_sublist_take_left this
  refine List.Nodup.sublist s1 ?_
  have pm : (l.drop f ++ l.take f).Perm l := by
    have := List.perm_append_comm (l₁ := l.drop f) (l₂ := l.take f)
    rw [List.take_append_drop] at this
    exact this
  exact pm.nodup_iff.mpr hn
theorem keep_new {st st' : Store} {ob : Ob} (k : Keep st.length (st ++ [ob]) st') : ∃ ob', st' = st ++ [ob'] ∧ HandOb ob' := by
  obtain ⟨ob', e, h⟩ := k.hand
  refine ⟨ob', List.ext_getElem? fun i => ?_, h⟩
  by_cases hi : i = st.length
  · subst hi; rw [e]; simp
  · rw [k.oth i hi]
    by_cases h2 : i < st.length
    · rw [List.getElem?_append_left h2, List.getElem?_append_left h2]
    · rw [List.getElem?_eq_none (by simp; omega), List.getElem?_eq_none (by simp; omega)]
end G2
/-! YD: heads made -/
namespace G2
open PySem L2 D C
theorem args_of {as pool : List Str} (h : ∀ a ∈ as, a ∈ pool) (hp : ∀ w ∈ pool, isWordS w = true) (hl : as.length ≤ 4) : argsS as = true := by
  unfold argsS
  rw [decide_eq_true hl, Bool.true_and, List.all_eq_true]
  exact fun a ha => hp a (h a ha)
set_option maxHeartbeats 4000000 in
theorem heads_turn (n : Nat) (names roster pool : List Str) (hr : roster.Nodup) (hrw : ∀ w ∈ roster, isWordS w = true) (hrl : roster.length ≤ 8) (hp : WOk 6 pool) (nm : Str) (hnm : isWordS nm = true) (acc : List Hd) (ha : acc.length ≤ 100) (c0 c1 c3 s9 s10 : Sl) (st : Store) (h : Hs n st) :
    ∃ (hd : Hd) (t9 t10 : Sl) (st' : Store), HdOk roster hd ∧ hd.name = nm ∧ Keep n st st' ∧ t1_l_heads [c0, c1, .val (.ref n), c3, .val (lS names), .val (lS roster), .val (lS pool), .own (acc.map Hd.u), .val (.str nm), s9, s10] st = .nx [c0, c1, .val (.ref n), c3, .val (lS names), .val (lS roster), .val (lS pool), .own ((acc ++ [hd]).map Hd.u), .val (.str nm), t9, t10] st' := by
  obtain ⟨_, s1, e1, k1, f, rfl, hf⟩ := draw h (show (0 : Int) < 6 by decide) (by decide)
  obtain ⟨_, s2, e2, k2, d, rfl, hd⟩ := draw k1.hs (show (0 : Int) < 5 by decide) (by decide)
  obtain ⟨_, s3, e3, k3, ls, rfl, hls, hsub⟩ := some_ok n roster hr hrw hrl 3 s2 k2.hs
  obtain ⟨ps, hps⟩ : ∃ ps, ps = ((pool ++ pool).drop f).take d := ⟨_, rfl⟩
  have psl : ps.length ≤ 4 := by rw [hps, List.length_take]; omega
  have psn : ps.Nodup := by rw [hps]; exact cyc pool hp.nd f d (by rw [hp.len]; omega) (by rw [hp.len]; omega)
  have psw : argsS ps = true := args_of (pool := pool) (fun a ha => by
    rw [hps] at ha
    have := List.mem_of_mem_drop (List.mem_of_mem_take ha)
    simpa using this) hp.word psl
  refine ⟨⟨nm, ls, ps⟩, .val (.int (f : Int)), .val (tS ps), s3, ⟨hnm, hls, hsub, psw, psn⟩, rfl, (k1.trans k2).trans k3, ?_⟩
  have ad : add2 (lS pool) (lS pool) = some (lS (pool ++ pool)) := by
    show add2 (.lst (pool.map U.str)) (.lst (pool.map U.str)) = _
    rw [add_lsts, if_pos (by rw [List.length_map, hp.len]; decide), ← List.map_append]
  have sl : sl3 (lS (pool ++ pool)) (some (f : Int)) (some ((f : Int) + (d : Int))) = some (.lst (ps.map U.str)) := by
    rw [sl_lst]
    have := cutL_mid ((pool ++ pool).map U.str) f (f + d)
    rw [show ((f + d : Nat) : Int) = (f : Int) + (d : Int) by omega, show f + d - f = d by omega] at this
    rw [this, hps, List.map_take, List.map_drop]
  have hl : acc.length < 16777216 := by omega
  generalize lS (pool ++ pool) = PP at *
  generalize lS pool = PO at *
  generalize lS roster = RO at *
  generalize lS names = NA at *
  unfold t1_l_heads
  simp [e1, e2, e3, ad, sl, hl, Hd.u, tS]
set_option maxHeartbeats 4000000 in
theorem heads_ok (ns : List Int) (most : Nat) (h1 : 1 ≤ most) (h8 : most ≤ 8) (st : Store) : ∃ (k : Kit) (ob : Ob), f_l_heads [.scr ns, .int (most : Int)] st = .ok k.u (st ++ [ob]) ∧ KitOk k ∧ HandOb ob := by
  obtain ⟨ob, e0, hob⟩ := hand_ok ns 0 (by decide) st
  have e0 : f_l_hand [.scr ns, .int 0] st = .ok (.ref st.length) (st ++ [ob]) := e0
  obtain ⟨n, hn⟩ : ∃ n, n = st.length := ⟨_, rfl⟩
  obtain ⟨st0, hst0⟩ : ∃ s : Store, s = st ++ [ob] := ⟨_, rfl⟩
  rw [← hn, ← hst0] at e0
  have h0 : Hs n st0 := ⟨ob, by rw [hst0, hn]; simp, hob⟩
  obtain ⟨_, s1, e1, k1, m, rfl, hm⟩ := draw h0 (m := (most : Int)) (by omega) (by omega)
  obtain ⟨_, s2, e2, k2, names, rfl, hna⟩ := words_ok n (1 + m) (by omega) s1 k1.hs
  obtain ⟨_, s3, e3, k3, d, rfl, hd⟩ := draw k2.hs (show (0 : Int) < 8 by decide) (by decide)
  obtain ⟨_, s4, e4, k4, roster, rfl, hro⟩ := words_ok n (1 + d) (by omega) s3 k3.hs
  obtain ⟨_, s5, e5, k5, pool, rfl, hpo⟩ := words_ok n 6 (by decide) s4 k4.hs
  have e5 : f_l_words [.ref n, .int 6] s4 = .ok (lS pool) s5 := e5
  have k05 : Keep n st0 s5 := (((k1.trans k2).trans k3).trans k4).trans k5
  obtain ⟨env', s6, he, done, t8, t9, t10, hd1, hd2, hk, rfl⟩ := for_stL (t := tgN 8) (b := t1_l_heads) (f := U.str) (fun r env s => ∃ (done : List Hd) (s8 s9 s10 : Sl), names = done.map Hd.name ++ r ∧ (∀ h ∈ done, HdOk roster h) ∧ Keep n st0 s ∧ env = [.val (.scr ns), .val (.int (most : Int)), .val (.ref n), .val (.int ((1 + m : Nat) : Int)), .val (lS names), .val (lS roster), .val (lS pool), .own (done.map Hd.u), s8, s9, s10]) names [.val (.scr ns), .val (.int (most : Int)), .val (.ref n), .val (.int ((1 + m : Nat) : Int)), .val (lS names), .val (lS roster), .val (lS pool), .own [], .un, .un, .un] s5 ⟨[], _, _, _, rfl, fun _ z => (nomatch z), k05, rfl⟩ (fun x r env s hx hI => by
    obtain ⟨done, s8, s9, s10, hd1, hd2, hk, rfl⟩ := hI
    have dl : done.length ≤ 100 := by
      have := congrArg List.length hd1
      rw [hna.len] at this
      simp at this
      omega
    obtain ⟨hd, t9, t10, s', q1, q2, q3, q4⟩ := heads_turn n names roster pool hro.nd hro.word (by rw [hro.len]; omega) hpo x (hna.word x hx) done dl (.val (.scr ns)) (.val (.int (most : Int))) (.val (.int ((1 + m : Nat) : Int))) s9 s10 s hk.hs
    exact ⟨_, _, s', rfl, q4, done ++ [hd], _, _, _, by rw [hd1, List.map_append, List.append_assoc, List.map_cons, q2]; rfl, fun y hy => by
      rcases List.mem_append.mp hy with z | z
      · exact hd2 y z
      · rw [List.mem_singleton] at z; rw [z]; exact q1, hk.trans q3, rfl⟩)
  rw [List.append_nil] at hd1
  have hk' := hk
  rw [hst0, hn] at hk'
  obtain ⟨ob', hs6, hob'⟩ := keep_new hk'
  have dl : done.length = 1 + m := by
    have := congrArg List.length hd1
    rw [hna.len, List.length_map] at this
    exact this.symm
  refine ⟨⟨done, roster, pool⟩, ob', ?_, ⟨by rw [dl]; omega, by rw [dl]; omega, hd2, hd1 ▸ hna.nd, by rw [hro.len]; omega, by rw [hro.len]; omega, hro.nd, hro.word, hpo.len, hpo.word⟩, hob'⟩
  rw [← hs6]
  have a1 : add2 (.int 1) (.int (m : Int)) = some (.int ((1 + m : Nat) : Int)) := by
    show some (U.int _) = _
    congr 2
  have a2 : add2 (.int 1) (.int (d : Int)) = some (.int ((1 + d : Nat) : Int)) := by
    show some (U.int _) = _
    congr 2
  have it : items (lS names) = some (names.map U.str) := rfl
  unfold f_l_heads b_l_heads Kit.u
  generalize U.int ((1 + m : Nat) : Int) = M1 at *
  generalize U.int ((1 + d : Nat) : Int) = D1 at *
  generalize lS pool = PO at *
  generalize lS roster = RO at *
  generalize lS names = NA at *
  simp only [runB_ap, env0_ap, List.length_cons, List.length_nil, List.map_cons, List.map_nil, List.replicate, List.cons_append, List.nil_append]
  simp [e0, e1, e2, e3, e4, e5, a1, a2, it, he, frzE, frz1]
end G2
/-! YE: rows by draws -/
namespace G2
open PySem L2 D C
def b_l_number : DS := (sSeq (sRet (bin ix2 (appN szL (acons (cst (.int 0)) (acons (cst (.int 1)) (acons (bin sub2 (appU f_l_draw (acons (var 0) (acons (cst (.int 30)) anil))) (cst (.int 10))) (acons (bin sub2 (bin pow2 (cst (.int 10)) (cst (.int 18))) (appU f_l_draw (acons (var 0) (acons (cst (.int 3)) anil)))) (acons (bin sub2 (cst (.int 0)) (bin pow2 (cst (.int 10)) (cst (.int 18)))) anil)))))) (appU f_l_draw (acons (var 0) (acons (cst (.int 5)) anil))))) sNil)
def f_l_number : List U → Store → Rs U := runB 1 1 b_l_number
def b_l_plain : DS := (sSeq (sUnp (tgA [3, 4, 5]) (var 1)) (sSeq (sUnp (tgA [6, 7, 8]) (appU f_l_args (acons (var 0) (acons (var 5) (acons (cst (.int 3)) anil))))) (sSeq (sIf (tst (bin eq2 (var 2) (cst (.int 0)))) (sSeq (sRet (appN szL (acons (appN szT (acons (cst (.str (Str.ofString "set"))) (acons (var 6) (acons (appU f_l_number (acons (var 0) anil)) anil)))) anil))) sNil) sNil) (sSeq (sIf (tst (bin eq2 (var 2) (cst (.int 1)))) (sSeq (sRet (appN szL (acons (appN szT (acons (cst (.str (Str.ofString "same"))) (acons (var 6) (acons (var 7) anil)))) anil))) sNil) sNil) (sSeq (sIf (tst (bin eq2 (var 2) (cst (.int 2)))) (sSeq (sRet (appN szL (acons (appN szT (acons (bin ix2 (appN szL (acons (cst (.str (Str.ofString "sum"))) (acons (cst (.str (Str.ofString "less"))) anil))) (appU f_l_draw (acons (var 0) (acons (cst (.int 2)) anil)))) (acons (var 6) (acons (var 7) (acons (var 8) anil))))) anil))) sNil) sNil) (sSeq (sIf (tst (bin eq2 (var 2) (cst (.int 3)))) (sSeq (sSet 9 (bin ix2 (bin ix2 (bin add2 (var 3) (appN szL (acons (appN szT (acons (cst (.str (Str.ofString "gone"))) (acons (appN szT anil) (acons (appN szT anil) anil)))) anil))) (appU f_l_draw (acons (var 0) (acons (bin add2 (appN lenN (acons (var 3) anil)) (cst (.int 1))) anil)))) (cst (.int 0)))) (sSeq (sRet (appN szL (acons (appN szT (acons (cst (.str (Str.ofString "hold"))) (acons (var 6) (acons (var 9) (acons (appU f_l_args (acons (var 0) (acons (var 5) (acons (appU f_l_draw (acons (var 0) (acons (cst (.int 5)) anil))) anil)))) anil))))) anil))) sNil)) sNil) (sSeq (sIf (tst (bin eq2 (var 2) (cst (.int 4)))) (sSeq (sSet 10 (bin ix2 (var 5) (appU f_l_draw (acons (var 0) (acons (cst (.int 3)) anil))))) (sSeq (sRet (appN szL (acons (bin ix2 (appN szL (acons (appN szT (acons (cst (.str (Str.ofString "keep"))) (acons (var 10) (acons (var 6) anil)))) (acons (appN szT (acons (cst (.str (Str.ofString "kept"))) (acons (var 6) (acons (var 10) anil)))) anil))) (appU f_l_draw (acons (var 0) (acons (cst (.int 2)) anil)))) anil))) sNil)) sNil) (sSeq (sIf (tst (bin eq2 (var 2) (cst (.int 5)))) (sSeq (sSet 11 (bin add2 (cst (.int 1)) (appU f_l_draw (acons (var 0) (acons (cst (.int 3)) anil))))) (sSeq (sRet (appN szL (acons (bin ix2 (appN szL (acons (appN szT (acons (cst (.str (Str.ofString "skip"))) (acons (var 6) (acons (var 11) anil)))) (acons (appN szT (acons (cst (.str (Str.ofString "over"))) (acons (var 11) anil))) (acons (appN szT (acons (cst (.str (Str.ofString "on"))) anil)) (acons (appN szT (acons (cst (.str (Str.ofString "count"))) anil)) anil))))) (appU f_l_draw (acons (var 0) (acons (cst (.int 4)) anil)))) anil))) sNil)) sNil) (sSeq (sRet (appN szL (acons (appN szT (acons (cst (.str (Str.ofString "skip"))) (acons (var 6) (acons (cst (.int 1)) anil)))) (acons (appN szT (acons (cst (.str (Str.ofString "give"))) (acons (var 7) anil))) anil)))) sNil)))))))))
def f_l_plain : List U → Store → Rs U := runB 12 3 b_l_plain
def b_l_pair : DS := (sSeq (sUnp (tgA [8, 9, 10]) (var 1)) (sSeq (sUnp (tgA [11, 12, 13]) (bin ix2 (var 8) (appU f_l_draw (acons (var 0) (acons (appN lenN (acons (var 8) anil)) anil))))) (sSeq (sSet 2 (appU f_l_draw (acons (var 0) (acons (bin add2 (appN lenN (acons (var 13) anil)) (cst (.int 1))) anil)))) (sSeq (sSet 3 (appN maxN (acons (cst (.int 0)) (acons (bin sub2 (bin sub2 (appN lenN (acons (var 13) anil)) (var 2)) (appN intN (acons (bin eq2 (appU f_l_draw (acons (var 0) (acons (cst (.int 12)) anil))) (cst (.int 0))) anil))) anil)))) (sSeq (sSet 4 (bin ix2 (var 10) (appU f_l_draw (acons (var 0) (acons (cst (.int 6)) anil))))) (sSeq (sIf (tst (bin eq2 (appU f_l_draw (acons (var 0) (acons (cst (.int 16)) anil))) (cst (.int 0)))) (sSeq (sSet 11 (cst (.str (Str.ofString "gone")))) sNil) sNil) (sSeq (sSet 5 (appN szT (acons (cst (.str (Str.ofString "hold"))) (acons (var 4) (acons (var 11) (acons (appU f_l_args (acons (var 0) (acons (var 10) (acons (var 2) anil)))) anil)))))) (sSeq (sSet 6 (appU f_l_args (acons (var 0) (acons (var 10) (acons (var 3) anil))))) (sSeq (sSet 7 (appU f_l_some (acons (var 0) (acons (var 9) (acons (cst (.int 1)) anil))))) (sSeq (sIf (tst (bin eq2 (appU f_l_draw (acons (var 0) (acons (cst (.int 4)) anil))) (cst (.int 0)))) (sSeq (sRet (appN szL (acons (appN szT (acons (cst (.str (Str.ofString "skip"))) (acons (bin ix2 (var 10) (appU f_l_draw (acons (var 0) (acons (cst (.int 6)) anil)))) (acons (cst (.int 2)) anil)))) (acons (var 5) (acons (appN szT (acons (cst (.str (Str.ofString "last"))) (acons (var 4) (acons (var 6) (acons (var 7) anil))))) anil))))) sNil) sNil) (sSeq (sRet (appN szL (acons (var 5) (acons (appN szT (acons (cst (.str (Str.ofString "call"))) (acons (bin ix2 (var 10) (appU f_l_draw (acons (var 0) (acons (cst (.int 6)) anil)))) (acons (var 4) (acons (var 6) (acons (var 7) anil)))))) anil)))) sNil)))))))))))
def f_l_pair : List U → Store → Rs U := runB 14 2 b_l_pair
def b_l_more : DS := (sSeq (sUnp (tgA [4, 5, 6]) (var 1)) (sSeq (sSet 2 (appU f_l_draw (acons (var 0) (acons (cst (.int 16)) anil)))) (sSeq (sSet 3 (bin ix2 (var 5) (appU f_l_draw (acons (var 0) (acons (appN lenN (acons (var 5) anil)) anil))))) (sSeq (sIf (tst (bin lt2 (var 2) (cst (.int 7)))) (sSeq (sRet (appU f_l_plain (acons (var 0) (acons (var 1) (acons (var 2) anil))))) sNil) sNil) (sSeq (sIf (tst (bin lt2 (var 2) (cst (.int 10)))) (sSeq (sRet (appU f_l_pair (acons (var 0) (acons (var 1) anil)))) sNil) sNil) (sSeq (sIf (tst (bin eq2 (var 2) (cst (.int 10)))) (sSeq (sUnp (tgA [7, 8]) (appU f_l_args (acons (var 0) (acons (var 6) (acons (cst (.int 2)) anil))))) (sSeq (sRet (appN szL (acons (appN szT (acons (cst (.str (Str.ofString "call"))) (acons (var 7) (acons (var 8) (acons (appU f_l_args (acons (var 0) (acons (var 6) (acons (appU f_l_draw (acons (var 0) (acons (cst (.int 3)) anil))) anil)))) (acons (appU f_l_some (acons (var 0) (acons (var 5) (acons (cst (.int 1)) anil)))) anil)))))) anil))) sNil)) sNil) (sSeq (sIf (tst (bin lt2 (var 2) (cst (.int 14)))) (sSeq (sRet (appN szL (acons (appN szT (acons (cst (.str (Str.ofString "ask"))) (acons (var 3) (acons (bin add2 (cst (.int 1)) (appU f_l_draw (acons (var 0) (acons (cst (.int 3)) anil)))) anil)))) anil))) sNil) sNil) (sSeq (sRet (appN szL (acons (appN szT (acons (bin ix2 (appN szL (acons (cst (.str (Str.ofString "deed"))) (acons (cst (.str (Str.ofString "done"))) anil))) (bin sub2 (var 2) (cst (.int 14)))) (acons (var 3) (acons (bin ix2 (var 6) (appU f_l_draw (acons (var 0) (acons (cst (.int 6)) anil)))) anil)))) anil))) sNil))))))))
def f_l_more : List U → Store → Rs U := runB 9 2 b_l_more

/-- a row ahead of its fitting -/
def PreR (R : List Str) (r : Row) : Prop := r.ok = true ∧ ∀ w ∈ r.leaves, w ∈ R
def RowsU (R : List Str) (u : U) : Prop := ∃ rs : List Row, u = .lst (rs.map Row.u) ∧ rs.length ≤ 3 ∧ ∀ r ∈ rs, PreR R r
theorem rows1 {R : List Str} {r : Row} (h : PreR R r) : RowsU R (.lst [r.u]) := ⟨[r], rfl, by simp, fun x hx => by rw [List.mem_singleton] at hx; rw [hx]; exact h⟩
theorem rows2 {R : List Str} {r s : Row} (h : PreR R r) (h2 : PreR R s) : RowsU R (.lst [r.u, s.u]) := ⟨[r, s], rfl, by simp, fun x hx => by
  simp only [List.mem_cons, List.not_mem_nil, or_false] at hx
  rcases hx with rfl | rfl
  · exact h
  · exact h2⟩
theorem rows3 {R : List Str} {r s t : Row} (h : PreR R r) (h2 : PreR R s) (h3 : PreR R t) : RowsU R (.lst [r.u, s.u, t.u]) := ⟨[r, s, t], rfl, by simp, fun x hx => by
  simp only [List.mem_cons, List.not_mem_nil, or_false] at hx
  rcases hx with rfl | rfl | rfl
  · exact h
  · exact h2
  · exact h3⟩
theorem noL {R : List Str} {r : Row} (h : r.leaves = []) : ∀ w ∈ r.leaves, w ∈ R := fun w hw => by rw [h] at hw; cases hw
theorem number_ok (n : Nat) (st : Store) (h : Hs n st) : Dr n st (fun u => ∃ i : Int, u = .int i ∧ okN i = true) (f_l_number [.ref n] st) := by
  obtain ⟨_, s1, e1, k1, a, rfl, ha⟩ := draw h (show (0 : Int) < 30 by decide) (by decide)
  obtain ⟨_, s2, e2, k2, b, rfl, hb⟩ := draw k1.hs (show (0 : Int) < 3 by decide) (by decide)
  obtain ⟨_, s3, e3, k3, c, rfl, hc⟩ := draw k2.hs (show (0 : Int) < 5 by decide) (by decide)
  obtain ⟨x, hx, ex⟩ := pick [0, 1, (a : Int) - 10, 1000000000000000000 - (b : Int), -1000000000000000000] (c : Int) (by omega) hc
  have ok : okN x = true := by
    unfold okN
    simp only [List.mem_cons, List.not_mem_nil, or_false] at hx
    rcases hx with rfl | rfl | rfl | rfl | rfl <;> exact decide_eq_true (by omega)
  have ex' : atI [U.int 0, .int 1, .int ((a : Int) - 10), .int (1000000000000000000 - (b : Int)), .int (-1000000000000000000)] (c : Int) = some (.int x) := atI_map U.int ex
  refine ⟨.int x, s3, ?_, (k1.trans k2).trans k3, x, rfl, ok⟩
  unfold f_l_number b_l_number
  simp only [runB_ap, env0_ap, List.length_cons, List.length_nil, List.map_cons, List.map_nil, List.replicate, List.cons_append, List.nil_append]
  simp [e1, e2, e3, pow18', ex', -atI_nat']
section
variable (k : Kit) (hk : KitOk k) (n : Nat)
include hk
theorem pool_pick (r : Nat) (h : (r : Int) < 6) : ∃ a ∈ k.pool, ix2 (lS k.pool) (.int (r : Int)) = some (.str a) := by
  obtain ⟨t, ht, e⟩ := pick k.pool (r : Int) (by omega) (by rw [hk.p1]; exact h)
  exact ⟨t, ht, atI_map U.str e⟩
theorem three_of {as : List Str} (h : as.length = 3) : ∃ a b c, as = [a, b, c] := by
  match as, h with
  | [a, b, c], _ => exact ⟨a, b, c, rfl⟩
set_option maxHeartbeats 8000000 in
theorem plain_ok (way : Nat) (hw : way < 7) (st : Store) (h : Hs n st) : Dr n st (RowsU k.roster) (f_l_plain [.ref n, k.u, .int (way : Int)] st) := by
  have tg : tgA [3, 4, 5] k.u = some [(3, .lst (k.heads.map Hd.u)), (4, lS k.roster), (5, lS k.pool)] := rfl
  obtain ⟨_, s1, e1, k1, as, rfl, hl, has⟩ := args_ok n k.pool hk.p1 3 (by decide) st h
  obtain ⟨a, b, c, rfl⟩ := three_of k hk hl
  have wa := hk.pw a (has a (by simp))
  have wb := hk.pw b (has b (by simp))
  have wc := hk.pw c (has c (by simp))
  have e1 : f_l_args [.ref n, lS k.pool, .int 3] st = .ok (.tup [.str a, .str b, .str c]) s1 := e1
  have tg2 : tgA [6, 7, 8] (.tup [.str a, .str b, .str c]) = some [(6, .str a), (7, .str b), (8, .str c)] := rfl
  unfold f_l_plain b_l_plain
  simp only [runB_ap, env0_ap, List.length_cons, List.length_nil, List.map_cons, List.map_nil, List.replicate, List.cons_append, List.nil_append]
  have ways : way = 0 ∨ way = 1 ∨ way = 2 ∨ way = 3 ∨ way = 4 ∨ way = 5 ∨ way = 6 := by omega
  rcases ways with rfl | rfl | rfl | rfl | rfl | rfl | rfl
  · obtain ⟨_, s2, e2, k2, i, rfl, hi⟩ := number_ok n s1 k1.hs
    refine ⟨.lst [(Row.set a i).u], s2, ?_, k1.trans k2, rows1 ⟨by simp [Row.ok, wa, hi], noL rfl⟩⟩
    generalize k.u = KU at *
    generalize lS k.pool = PO at *
    generalize lS k.roster = RO at *
    generalize U.lst (k.heads.map Hd.u) = HE at *
    simp [sUnp, tg, e1, tg2, e2, Row.u]
  · refine ⟨.lst [(Row.same a b).u], s1, ?_, k1, rows1 ⟨by simp [Row.ok, wa, wb], noL rfl⟩⟩
    generalize k.u = KU at *
    generalize lS k.pool = PO at *
    generalize lS k.roster = RO at *
    generalize U.lst (k.heads.map Hd.u) = HE at *
    simp [sUnp, tg, e1, tg2, Row.u]
  · obtain ⟨_, s2, e2, k2, r, rfl, hr⟩ := draw k1.hs (show (0 : Int) < 2 by decide) (by decide)
    obtain ⟨q, hq, eq⟩ := pick [Str.ofString "sum", Str.ofString "less"] (r : Int) (by omega) hr
    have eq' : atI [U.str (Str.ofString "sum"), U.str (Str.ofString "less")] (r : Int) = some (.str q) := atI_map U.str eq
    simp only [List.mem_cons, List.not_mem_nil, or_false] at hq
    have fin : RowsU k.roster (.lst [.tup [.str q, .str a, .str b, .str c]]) := by
      rcases hq with rfl | rfl
      · exact rows1 (r := .sum a b c) ⟨by simp [Row.ok, wa, wb, wc], noL rfl⟩
      · exact rows1 (r := .less a b c) ⟨by simp [Row.ok, wa, wb, wc], noL rfl⟩
    refine ⟨_, s2, ?_, k1.trans k2, fin⟩
    generalize k.u = KU at *
    generalize lS k.pool = PO at *
    generalize lS k.roster = RO at *
    generalize U.lst (k.heads.map Hd.u) = HE at *
    simp [sUnp, tg, e1, tg2, e2, eq', -atI_nat']
  · obtain ⟨_, s2, e2, k2, r, rfl, hr⟩ := draw k1.hs (m := (k.heads.length : Int) + 1) (by omega) (by have := hk.len2; omega)
    obtain ⟨_, s3, e3, k3, d, rfl, hd⟩ := draw k2.hs (show (0 : Int) < 5 by decide) (by decide)
    obtain ⟨_, s4, e4, k4, as, rfl, hl4, has4⟩ := args_ok n k.pool hk.p1 d (by omega) s3 k3.hs
    have adv : add2 (.lst (k.heads.map Hd.u)) (.lst [.tup [.str (Str.ofString "gone"), .tup [], .tup []]]) = some (.lst ((k.heads ++ [Hd.mk (Str.ofString "gone") [] []]).map Hd.u)) := by
      rw [add_lsts, if_pos (by rw [List.length_map]; have := hk.len2; simp; omega), List.map_append]
      rfl
    obtain ⟨hd', hm, hp⟩ := pick (k.heads ++ [Hd.mk (Str.ofString "gone") [] []]) (r : Int) (by omega) (by rw [List.length_append]; simpa using hr)
    have hix : ix2 (.lst ((k.heads ++ [Hd.mk (Str.ofString "gone") [] []]).map Hd.u)) (.int (r : Int)) = some hd'.u := atI_map Hd.u hp
    have hi0 : ix2 hd'.u (.int 0) = some (.str hd'.name) := rfl
    have wn : isWordS hd'.name = true := by
      rcases List.mem_append.mp hm with z | z
      · exact (hk.heads hd' z).name
      · rw [List.mem_singleton] at z; rw [z]; decide +kernel
    have ln : lenN [.lst (k.heads.map Hd.u)] = some (.int (k.heads.length : Int)) := by simp
    refine ⟨.lst [(Row.hold a hd'.name as).u], s4, ?_, ((k1.trans k2).trans k3).trans k4, rows1 ⟨by simp [Row.ok, wa, wn, args_of has4 hk.pw (by omega)], noL rfl⟩⟩
    generalize U.lst ((k.heads ++ [Hd.mk (Str.ofString "gone") [] []]).map Hd.u) = HG at *
    generalize hd'.u = HU at *
    generalize k.u = KU at *
    generalize lS k.pool = PO at *
    generalize lS k.roster = RO at *
    generalize U.lst (k.heads.map Hd.u) = HE at *
    simp [sUnp, tg, e1, tg2, adv, ln, e2, hix, hi0, e3, e4, Row.u]
  · obtain ⟨_, s2, e2, k2, r, rfl, hr⟩ := draw k1.hs (show (0 : Int) < 3 by decide) (by decide)
    obtain ⟨p, hpm, hpi⟩ := pool_pick k hk r (by omega)
    obtain ⟨_, s3, e3, k3, d, rfl, hd⟩ := draw k2.hs (show (0 : Int) < 2 by decide) (by decide)
    obtain ⟨ro, hrm, hri⟩ := pick [Row.keep p a, Row.kept a p] (d : Int) (by omega) hd
    have hri' : atI [U.tup [.str (Str.ofString "keep"), .str p, .str a], U.tup [.str (Str.ofString "kept"), .str a, .str p]] (d : Int) = some ro.u := atI_map Row.u hri
    have wp := hk.pw p hpm
    have fin : RowsU k.roster (.lst [ro.u]) := by
      simp only [List.mem_cons, List.not_mem_nil, or_false] at hrm
      rcases hrm with rfl | rfl
      · exact rows1 ⟨by simp [Row.ok, wa, wp], noL rfl⟩
      · exact rows1 ⟨by simp [Row.ok, wa, wp], noL rfl⟩
    refine ⟨_, s3, ?_, (k1.trans k2).trans k3, fin⟩
    generalize ro.u = RU at *
    generalize k.u = KU at *
    generalize lS k.pool = PO at *
    generalize lS k.roster = RO at *
    generalize U.lst (k.heads.map Hd.u) = HE at *
    simp [sUnp, tg, e1, tg2, e2, hpi, e3, hri', -atI_nat']
  · obtain ⟨_, s2, e2, k2, r, rfl, hr⟩ := draw k1.hs (show (0 : Int) < 3 by decide) (by decide)
    obtain ⟨_, s3, e3, k3, d, rfl, hd⟩ := draw k2.hs (show (0 : Int) < 4 by decide) (by decide)
    obtain ⟨ro, hrm, hri⟩ := pick [Row.skip a (1 + (r : Int)), Row.over (1 + (r : Int)), Row.on, Row.count] (d : Int) (by omega) hd
    have hri' : atI [U.tup [.str (Str.ofString "skip"), .str a, .int (1 + (r : Int))], U.tup [.str (Str.ofString "over"), .int (1 + (r : Int))], U.tup [.str (Str.ofString "on")], U.tup [.str (Str.ofString "count")]] (d : Int) = some ro.u := atI_map Row.u hri
    have pos : 0 < 1 + (r : Int) := by omega
    have fin : RowsU k.roster (.lst [ro.u]) := by
      simp only [List.mem_cons, List.not_mem_nil, or_false] at hrm
      rcases hrm with rfl | rfl | rfl | rfl
      · exact rows1 ⟨by simp [Row.ok, wa, pos], noL rfl⟩
      · exact rows1 ⟨by simp [Row.ok, pos], noL rfl⟩
      · exact rows1 ⟨rfl, noL rfl⟩
      · exact rows1 ⟨rfl, noL rfl⟩
    refine ⟨_, s3, ?_, (k1.trans k2).trans k3, fin⟩
    generalize ro.u = RU at *
    generalize k.u = KU at *
    generalize lS k.pool = PO at *
    generalize lS k.roster = RO at *
    generalize U.lst (k.heads.map Hd.u) = HE at *
    simp [sUnp, tg, e1, tg2, e2, e3, hri', -atI_nat']
  · refine ⟨.lst [(Row.skip a 1).u, (Row.give b).u], s1, ?_, k1, rows2 ⟨by simp [Row.ok, wa], noL rfl⟩ ⟨by simp [Row.ok, wb], noL rfl⟩⟩
    generalize k.u = KU at *
    generalize lS k.pool = PO at *
    generalize lS k.roster = RO at *
    generalize U.lst (k.heads.map Hd.u) = HE at *
    simp [sUnp, tg, e1, tg2, Row.u]
set_option maxHeartbeats 8000000 in
theorem pair_ok (st : Store) (h : Hs n st) : Dr n st (RowsU k.roster) (f_l_pair [.ref n, k.u] st) := by
  have tg : tgA [8, 9, 10] k.u = some [(8, .lst (k.heads.map Hd.u)), (9, lS k.roster), (10, lS k.pool)] := rfl
  have ln : lenN [.lst (k.heads.map Hd.u)] = some (.int (k.heads.length : Int)) := by simp
  obtain ⟨_, s1, e1, k1, r, rfl, hr⟩ := draw h (m := (k.heads.length : Int)) (by have := hk.len; omega) (by have := hk.len2; omega)
  obtain ⟨hd, hm, hp⟩ := pick k.heads (r : Int) (by omega) hr
  have hix : ix2 (.lst (k.heads.map Hd.u)) (.int (r : Int)) = some hd.u := atI_map Hd.u hp
  have hok := hk.heads hd hm
  have tg2 : tgA [11, 12, 13] hd.u = some [(11, .str hd.name), (12, tS hd.own), (13, tS hd.params)] := rfl
  have pl : hd.params.length ≤ 4 := args_len hok.params
  have ln2 : lenN [tS hd.params] = some (.int (hd.params.length : Int)) := by simp [tS]
  obtain ⟨_, s2, e2, k2, bd, rfl, hbd⟩ := draw k1.hs (m := (hd.params.length : Int) + 1) (by omega) (by omega)
  obtain ⟨_, s3, e3, k3, d, rfl, hd12⟩ := draw k2.hs (show (0 : Int) < 12 by decide) (by decide)
  obtain ⟨_, s4, e4, k4, w, rfl, hw6⟩ := draw k3.hs (show (0 : Int) < 6 by decide) (by decide)
  obtain ⟨p, hpm, hpi⟩ := pool_pick k hk w hw6
  obtain ⟨_, s5, e5, k5, g, rfl, hg⟩ := draw k4.hs (show (0 : Int) < 16 by decide) (by decide)
  obtain ⟨nm, hnm⟩ : ∃ nm, nm = if g = 0 then Str.ofString "gone" else hd.name := ⟨_, rfl⟩
  have wn : isWordS nm = true := by
    rw [hnm]
    split
    · decide +kernel
    · exact hok.name
  obtain ⟨_, s6, e6, k6, as, rfl, hl6, has6⟩ := args_ok n k.pool hk.p1 bd (by omega) s5 k5.hs
  obtain ⟨rest, hrest⟩ : ∃ x : Nat, (x : Int) = (if ((hd.params.length : Int) - (bd : Int) - (if d = 0 then 1 else 0)) > 0 then ((hd.params.length : Int) - (bd : Int) - (if d = 0 then 1 else 0)) else 0) := by
    generalize ((hd.params.length : Int) - (bd : Int) - (if d = 0 then 1 else 0)) = z
    by_cases hz : z > 0
    · exact ⟨z.toNat, by rw [if_pos hz]; omega⟩
    · exact ⟨0, by rw [if_neg hz]; rfl⟩
  have hrest4 : rest ≤ 4 := by
    have : (rest : Int) ≤ 4 := by rw [hrest]; split <;> (split <;> omega)
    omega
  obtain ⟨_, s7, e7, k7, bs, rfl, hl7, has7⟩ := args_ok n k.pool hk.p1 rest (by omega) s6 k6.hs
  obtain ⟨_, s8, e8, k8, ls, rfl, hls, hsub⟩ := some_ok n k.roster hk.rnd hk.rw_ hk.r2 1 s7 k7.hs
  obtain ⟨_, s9, e9, k9, q, rfl, hq⟩ := draw k8.hs (show (0 : Int) < 4 by decide) (by decide)
  obtain ⟨_, s10, e10, k10, x, rfl, hx6⟩ := draw k9.hs (show (0 : Int) < 6 by decide) (by decide)
  obtain ⟨y, hym, hyi⟩ := pool_pick k hk x hx6
  have wp := hk.pw p hpm
  have wy := hk.pw y hym
  have a1 := args_of has6 hk.pw (by omega)
  have a2 := args_of has7 hk.pw (by omega)
  have KK : Keep n st s10 := ((((((((k1.trans k2).trans k3).trans k4).trans k5).trans k6).trans k7).trans k8).trans k9).trans k10
  have mx : maxN [.int 0, .int ((hd.params.length : Int) - (bd : Int) - (if d = 0 then 1 else 0))] = some (.int (rest : Int)) := by
    rw [hrest]
    rfl
  have hold : PreR k.roster (.hold p nm as) := ⟨by simp [Row.ok, wp, wn, a1], noL rfl⟩
  have ads : add2 (.int (hd.params.length : Int)) (.int 1) = some (.int ((hd.params.length : Int) + 1)) := rfl
  have sb : sub2 (.int (hd.params.length : Int)) (.int (bd : Int)) = some (.int ((hd.params.length : Int) - (bd : Int))) := rfl
  have sb2 : sub2 (.int ((hd.params.length : Int) - (bd : Int))) (.int (if d = 0 then 1 else 0)) = some (.int ((hd.params.length : Int) - (bd : Int) - (if d = 0 then 1 else 0))) := rfl
  generalize U.int ((hd.params.length : Int) - (bd : Int) - (if d = 0 then 1 else 0)) = XX at *
  generalize U.int ((hd.params.length : Int) - (bd : Int)) = XY at *
  generalize U.int ((hd.params.length : Int) + 1) = XW at *
  have env5 : ∀ s : Store, s = s := fun _ => rfl
  by_cases hq0 : q = 0
  · refine ⟨.lst [(Row.skip y 2).u, (Row.hold p nm as).u, (Row.last p bs ls).u], s10, ?_, KK, rows3 ⟨by simp [Row.ok, wy], noL rfl⟩ hold ⟨by simp [Row.ok, wp, a2, hls], fun w hw => hsub w hw⟩⟩
    unfold f_l_pair b_l_pair
    simp only [runB_ap, env0_ap, List.length_cons, List.length_nil, List.map_cons, List.map_nil, List.replicate, List.cons_append, List.nil_append]
    have zq : (q = 0) = True := eq_true hq0
    generalize hd.u = HU at *
    generalize k.u = KU at *
    generalize lS k.pool = PO at *
    generalize lS k.roster = RO at *
    generalize tS hd.params = PA at *
    generalize tS hd.own = OW at *
    generalize U.lst (k.heads.map Hd.u) = HE at *
    by_cases hg0 : g = 0
    · have zg : (g = 0) = True := eq_true hg0
      rw [if_pos hg0] at hnm
      subst hnm
      simp [sUnp, tg, ln, e1, hix, tg2, ln2, ads, e2, sb, e3, sb2, mx, e4, hpi, e5, zg, e6, e7, e8, e9, zq, e10, hyi, Row.u, -add_int, -sub_int]
    · have zg : (g = 0) = False := eq_false hg0
      rw [if_neg hg0] at hnm
      subst hnm
      simp [sUnp, tg, ln, e1, hix, tg2, ln2, ads, e2, sb, e3, sb2, mx, e4, hpi, e5, zg, e6, e7, e8, e9, zq, e10, hyi, Row.u, -add_int, -sub_int]
  · refine ⟨.lst [(Row.hold p nm as).u, (Row.call y p bs ls).u], s10, ?_, KK, rows2 hold ⟨by simp [Row.ok, wy, wp, a2, hls], fun w hw => hsub w hw⟩⟩
    unfold f_l_pair b_l_pair
    simp only [runB_ap, env0_ap, List.length_cons, List.length_nil, List.map_cons, List.map_nil, List.replicate, List.cons_append, List.nil_append]
    have zq : (q = 0) = False := eq_false hq0
    generalize hd.u = HU at *
    generalize k.u = KU at *
    generalize lS k.pool = PO at *
    generalize lS k.roster = RO at *
    generalize tS hd.params = PA at *
    generalize tS hd.own = OW at *
    generalize U.lst (k.heads.map Hd.u) = HE at *
    by_cases hg0 : g = 0
    · have zg : (g = 0) = True := eq_true hg0
      rw [if_pos hg0] at hnm
      subst hnm
      simp [sUnp, tg, ln, e1, hix, tg2, ln2, ads, e2, sb, e3, sb2, mx, e4, hpi, e5, zg, e6, e7, e8, e9, zq, e10, hyi, Row.u, -add_int, -sub_int]
    · have zg : (g = 0) = False := eq_false hg0
      rw [if_neg hg0] at hnm
      subst hnm
      simp [sUnp, tg, ln, e1, hix, tg2, ln2, ads, e2, sb, e3, sb2, mx, e4, hpi, e5, zg, e6, e7, e8, e9, zq, e10, hyi, Row.u, -add_int, -sub_int]
end
end G2
/-! YF: rows by draws, fitted -/
namespace G2
open PySem L2 D C
def t1_l_fitted : DS := (sSeq (sSet 4 (bin sub2 (bin sub2 (appN lenN (acons (var 0) anil)) (cst (.int 1))) (var 2))) (sSeq (sIf (tst (bin in2 (bin ix2 (var 3) (cst (.int 0))) (appN szT (acons (cst (.str (Str.ofString "skip"))) (acons (cst (.str (Str.ofString "over"))) (acons (cst (.str (Str.ofString "ask"))) anil)))))) (sSeq (sSet 3 (bin ix2 (appN szL (acons (bin add2 (slD (var 3) noO (soO (neg1D (cst (.int 1))))) (appN szT (acons (bin add2 (cst (.int 1)) (bin mod2 (bin sub2 (bin ix2 (var 3) (neg1D (cst (.int 1)))) (cst (.int 1))) (appN maxN (acons (cst (.int 1)) (acons (var 4) anil))))) anil))) (acons (appN szT (acons (cst (.str (Str.ofString "on"))) anil)) anil))) (appN intN (acons (bin eq2 (var 4) (cst (.int 0))) anil)))) sNil) sNil) (sSeq (sApp 1 (var 3)) sNil)))
def b_l_fitted : DS := (sSeq (sOwn 1 (szDL anil)) (sSeq (sFor (itA enumerateN (acons (var 0) anil)) (tgT [2, 3]) t1_l_fitted) (sSeq (frzS 1 (sRet (appN tupN (acons (var 1) anil)))) sNil)))
def f_l_fitted : List U → Store → Rs U := runB 5 1 b_l_fitted

def restMore : DS := (sSeq (sIf (tst (bin lt2 (var 2) (cst (.int 7)))) (sSeq (sRet (appU f_l_plain (acons (var 0) (acons (var 1) (acons (var 2) anil))))) sNil) sNil) (sSeq (sIf (tst (bin lt2 (var 2) (cst (.int 10)))) (sSeq (sRet (appU f_l_pair (acons (var 0) (acons (var 1) anil)))) sNil) sNil) (sSeq (sIf (tst (bin eq2 (var 2) (cst (.int 10)))) (sSeq (sUnp (tgA [7, 8]) (appU f_l_args (acons (var 0) (acons (var 6) (acons (cst (.int 2)) anil))))) (sSeq (sRet (appN szL (acons (appN szT (acons (cst (.str (Str.ofString "call"))) (acons (var 7) (acons (var 8) (acons (appU f_l_args (acons (var 0) (acons (var 6) (acons (appU f_l_draw (acons (var 0) (acons (cst (.int 3)) anil))) anil)))) (acons (appU f_l_some (acons (var 0) (acons (var 5) (acons (cst (.int 1)) anil)))) anil)))))) anil))) sNil)) sNil) (sSeq (sIf (tst (bin lt2 (var 2) (cst (.int 14)))) (sSeq (sRet (appN szL (acons (appN szT (acons (cst (.str (Str.ofString "ask"))) (acons (var 3) (acons (bin add2 (cst (.int 1)) (appU f_l_draw (acons (var 0) (acons (cst (.int 3)) anil)))) anil)))) anil))) sNil) sNil) (sSeq (sRet (appN szL (acons (appN szT (acons (bin ix2 (appN szL (acons (cst (.str (Str.ofString "deed"))) (acons (cst (.str (Str.ofString "done"))) anil))) (bin sub2 (var 2) (cst (.int 14)))) (acons (var 3) (acons (bin ix2 (var 6) (appU f_l_draw (acons (var 0) (acons (cst (.int 6)) anil)))) anil)))) anil))) sNil)))))
section
variable (k : Kit) (hk : KitOk k) (n : Nat)
include hk
theorem two_of {as : List Str} (h : as.length = 2) : ∃ a b, as = [a, b] := by
  match as, h with
  | [a, b], _ => exact ⟨a, b, rfl⟩
set_option maxHeartbeats 8000000 in
theorem more_ok (st : Store) (h : Hs n st) : Dr n st (RowsU k.roster) (f_l_more [.ref n, k.u] st) := by
  have tg : tgA [4, 5, 6] k.u = some [(4, .lst (k.heads.map Hd.u)), (5, lS k.roster), (6, lS k.pool)] := rfl
  have ln : lenN [lS k.roster] = some (.int (k.roster.length : Int)) := by simp
  obtain ⟨_, s1, e1, k1, way, rfl, hway⟩ := draw h (show (0 : Int) < 16 by decide) (by decide)
  obtain ⟨_, s2, e2, k2, r, rfl, hr⟩ := draw k1.hs (m := (k.roster.length : Int)) (by have := hk.r1; omega) (by have := hk.r2; omega)
  obtain ⟨wd, hwm, hwp⟩ := pick k.roster (r : Int) (by omega) hr
  have hwi : ix2 (lS k.roster) (.int (r : Int)) = some (.str wd) := atI_map U.str hwp
  have ww := hk.rw_ wd hwm
  have hway' : way < 16 := by omega
  have head : ∀ {u : U} {s : Store}, (fin (restMore [.val (.ref n), .val k.u, .val (.int (way : Int)), .val (.str wd), .val (.lst (k.heads.map Hd.u)), .val (lS k.roster), .val (lS k.pool), .un, .un] s2) = .ok u s) → f_l_more [.ref n, k.u] st = .ok u s := fun {u s} q => by
    rw [← q]
    unfold f_l_more b_l_more
    simp only [runB_ap, env0_ap, List.length_cons, List.length_nil, List.map_cons, List.map_nil, List.replicate, List.cons_append, List.nil_append]
    generalize k.u = KU at *
    generalize lS k.pool = PO at *
    generalize lS k.roster = RO at *
    generalize U.lst (k.heads.map Hd.u) = HE at *
    simp [sUnp, tg, e1, ln, e2, hwi, restMore]
  by_cases w7 : way < 7
  · obtain ⟨u, s3, e3, k3, q⟩ := plain_ok k hk n way w7 s2 k2.hs
    refine ⟨u, s3, head ?_, (k1.trans k2).trans k3, q⟩
    have z7 : (way : Int) < 7 := by omega
    generalize k.u = KU at *
    simp [restMore, z7, w7, e3]
  by_cases w10 : way < 10
  · obtain ⟨u, s3, e3, k3, q⟩ := pair_ok k hk n s2 k2.hs
    refine ⟨u, s3, head ?_, (k1.trans k2).trans k3, q⟩
    have z7 : ¬ (way : Int) < 7 := by omega
    have z10 : (way : Int) < 10 := by omega
    generalize k.u = KU at *
    simp [restMore, z7, w7, z10, w10, e3]
  by_cases we : way = 10
  · subst we
    obtain ⟨_, s3, e3, k3, as, rfl, hl, has⟩ := args_ok n k.pool hk.p1 2 (by decide) s2 k2.hs
    obtain ⟨a, b, rfl⟩ := two_of k hk hl
    obtain ⟨_, s4, e4, k4, d, rfl, hd⟩ := draw k3.hs (show (0 : Int) < 3 by decide) (by decide)
    obtain ⟨_, s5, e5, k5, bs, rfl, hl5, has5⟩ := args_ok n k.pool hk.p1 d (by omega) s4 k4.hs
    obtain ⟨_, s6, e6, k6, ls, rfl, hls, hsub⟩ := some_ok n k.roster hk.rnd hk.rw_ hk.r2 1 s5 k5.hs
    have wa := hk.pw a (has a (by simp))
    have wb := hk.pw b (has b (by simp))
    have a2 := args_of has5 hk.pw (by omega)
    have tg2 : tgA [7, 8] (tS [a, b]) = some [(7, .str a), (8, .str b)] := rfl
    have e3 : f_l_args [.ref n, lS k.pool, .int 2] s2 = .ok (tS [a, b]) s3 := e3
    refine ⟨.lst [(Row.call a b bs ls).u], s6, head ?_, ((((k1.trans k2).trans k3).trans k4).trans k5).trans k6, rows1 ⟨by simp [Row.ok, wa, wb, a2, hls], fun w hw => hsub w hw⟩⟩
    generalize tS [a, b] = AB at *
    generalize k.u = KU at *
    generalize lS k.pool = PO at *
    generalize lS k.roster = RO at *
    generalize U.lst (k.heads.map Hd.u) = HE at *
    simp [restMore, sUnp, e3, tg2, e4, e5, e6, Row.u]
  by_cases w14 : way < 14
  · obtain ⟨_, s3, e3, k3, d, rfl, hd⟩ := draw k2.hs (show (0 : Int) < 3 by decide) (by decide)
    have pos : 0 < 1 + (d : Int) := by omega
    refine ⟨.lst [(Row.ask wd (1 + (d : Int))).u], s3, head ?_, (k1.trans k2).trans k3, rows1 ⟨by simp [Row.ok, ww, pos], fun w hw => by
      have : w = wd := by simpa [Row.leaves] using hw
      rw [this]; exact hwm⟩⟩
    have z7 : ¬ (way : Int) < 7 := by omega
    have z10 : ¬ (way : Int) < 10 := by omega
    have ze : ¬ (way : Int) = 10 := by omega
    have z14 : (way : Int) < 14 := by omega
    generalize k.u = KU at *
    generalize lS k.pool = PO at *
    generalize lS k.roster = RO at *
    generalize U.lst (k.heads.map Hd.u) = HE at *
    simp [restMore, z7, w7, z10, w10, ze, we, z14, w14, e3, Row.u]
  · obtain ⟨_, s3, e3, k3, d, rfl, hd⟩ := draw k2.hs (show (0 : Int) < 6 by decide) (by decide)
    obtain ⟨p, hpm, hpi⟩ := pool_pick k hk d hd
    have wp := hk.pw p hpm
    obtain ⟨q, hq, eq⟩ := pick [Str.ofString "deed", Str.ofString "done"] ((way : Int) - 14) (by omega) (by show (way : Int) - 14 < 2; omega)
    have eq' : atI [U.str (Str.ofString "deed"), U.str (Str.ofString "done")] ((way : Int) - 14) = some (.str q) := atI_map U.str eq
    simp only [List.mem_cons, List.not_mem_nil, or_false] at hq
    have fin : RowsU k.roster (.lst [.tup [.str q, .str wd, .str p]]) := by
      have sub : ∀ w ∈ [wd], w ∈ k.roster := fun w hw => by rw [List.mem_singleton] at hw; rw [hw]; exact hwm
      rcases hq with rfl | rfl
      · exact rows1 (r := .deed wd p) ⟨by simp [Row.ok, ww, wp], sub⟩
      · exact rows1 (r := .done wd p) ⟨by simp [Row.ok, ww, wp], sub⟩
    refine ⟨_, s3, head ?_, (k1.trans k2).trans k3, fin⟩
    have z7 : ¬ (way : Int) < 7 := by omega
    have z10 : ¬ (way : Int) < 10 := by omega
    have ze : ¬ (way : Int) = 10 := by omega
    have z14 : ¬ (way : Int) < 14 := by omega
    generalize k.u = KU at *
    generalize lS k.pool = PO at *
    generalize lS k.roster = RO at *
    generalize U.lst (k.heads.map Hd.u) = HE at *
    simp [restMore, z7, w7, z10, w10, ze, we, z14, w14, eq', e3, hpi]
end
/-! ### fitted -/
def fitK (behind : Nat) (k : Int) : Int := 1 + (k - 1) % (if (behind : Int) > 1 then (behind : Int) else 1)
def fitR (behind : Nat) : Row → Row
  | .skip a k => if behind = 0 then .on else .skip a (fitK behind k)
  | .over k => if behind = 0 then .on else .over (fitK behind k)
  | .ask w k => if behind = 0 then .on else .ask w (fitK behind k)
  | r => r
def fitAll (rs : List Row) : List Row := (List.range rs.length).map fun k => fitR (rs.length - 1 - k) (rs.getD k .on)
theorem fitK_ok (b : Nat) (hb : b ≠ 0) (k : Int) : 0 < fitK b k ∧ fitK b k ≤ b := by
  unfold fitK
  split
  · rename_i h
    have h1 := Int.emod_nonneg (k - 1) (show (b : Int) ≠ 0 by omega)
    have h2 := Int.emod_lt_of_pos (k - 1) (show (0 : Int) < b by omega)
    omega
  · have h1 := Int.emod_nonneg (k - 1) (show (1 : Int) ≠ 0 by omega)
    have h2 := Int.emod_lt_of_pos (k - 1) (show (0 : Int) < 1 by omega)
    omega
theorem fit_ok {R : List Str} (b : Nat) (r : Row) (h : PreR R r) : (fitR b r).ok = true ∧ (fitR b r).goes ≤ (b : Int) ∧ ∀ w ∈ (fitR b r).leaves, w ∈ R := by
  obtain ⟨h1, h2⟩ := h
  have z : (0 : Int) ≤ (b : Int) := by omega
  cases r with
  | skip a k =>
    rw [show fitR b (.skip a k) = if b = 0 then .on else .skip a (fitK b k) from rfl]
    by_cases hb : b = 0
    · rw [if_pos hb]; exact ⟨rfl, z, fun _ q => (nomatch q)⟩
    · rw [if_neg hb]
      obtain ⟨p1, p2⟩ := fitK_ok b hb k
      have : isWordS a = true := by simp [Row.ok] at h1; exact h1.1
      exact ⟨by simp [Row.ok, this, p1], p2, fun _ q => (nomatch q)⟩
  | over k =>
    rw [show fitR b (.over k) = if b = 0 then .on else .over (fitK b k) from rfl]
    by_cases hb : b = 0
    · rw [if_pos hb]; exact ⟨rfl, z, fun _ q => (nomatch q)⟩
    · rw [if_neg hb]
      obtain ⟨p1, p2⟩ := fitK_ok b hb k
      exact ⟨by simp [Row.ok, p1], p2, fun _ q => (nomatch q)⟩
  | ask w k =>
    rw [show fitR b (.ask w k) = if b = 0 then .on else .ask w (fitK b k) from rfl]
    by_cases hb : b = 0
    · rw [if_pos hb]; exact ⟨rfl, z, fun _ q => (nomatch q)⟩
    · rw [if_neg hb]
      obtain ⟨p1, p2⟩ := fitK_ok b hb k
      have : isWordS w = true := by simp [Row.ok] at h1; exact h1.1
      exact ⟨by simp [Row.ok, this, p1], p2, h2⟩
  | _ => exact ⟨h1, z, h2⟩
set_option maxHeartbeats 4000000 in
theorem fit_turn (T : U) (L k : Nat) (hk : k < L) (r : Row) (acc : List Row) (ha : acc.length ≤ 1000) (s4 : Sl) (st : Store) (hT : lenN [T] = some (.int (L : Int))) :
    ∃ t3 t4, t1_l_fitted [.val T, .own (acc.map Row.u), .val (.int (k : Int)), .val r.u, s4] st = .nx [.val T, .own ((acc ++ [fitR (L - 1 - k) r]).map Row.u), .val (.int (k : Int)), t3, t4] st := by
  obtain ⟨b, hb⟩ : ∃ b, b = L - 1 - k := ⟨_, rfl⟩
  have hbi : (L : Int) - 1 - (k : Int) = (b : Int) := by omega
  have hl : acc.length < 16777216 := by omega
  rw [← hb]
  refine ⟨.val (fitR b r).u, .val (.int (b : Int)), ?_⟩
  have mx : maxN [.int 1, .int (b : Int)] = some (.int (if (b : Int) > 1 then (b : Int) else 1)) := rfl
  have mp : 0 < (if (b : Int) > 1 then (b : Int) else 1) := by split <;> omega
  have md : ∀ x : Int, mod2 (.int x) (.int (if (b : Int) > 1 then (b : Int) else 1)) = some (.int (x % (if (b : Int) > 1 then (b : Int) else 1))) := fun x => by rw [mod_int, if_pos mp]
  have fk : ∀ x : Int, 1 + (x - 1) % (if (b : Int) > 1 then (b : Int) else 1) = fitK b x := fun x => rfl
  generalize hM : U.int (if (b : Int) > 1 then (b : Int) else 1) = MM at *
  unfold t1_l_fitted
  by_cases b0 : b = 0
  · have z0 : (b = 0) = True := eq_true b0
    cases r <;> simp [hT, hbi, in3, Row.u, fitR, mx, md, fk, z0, hl, -sub_int] <;> simp [hbi, hT, in3, Row.u, fitR, mx, md, fk, z0, hl]
  · have z0 : (b = 0) = False := eq_false b0
    cases r <;> simp [hT, hbi, in3, Row.u, fitR, mx, md, fk, z0, hl, -sub_int] <;> simp [hbi, hT, in3, Row.u, fitR, mx, md, fk, z0, hl]
end G2
/-! YG: a book by draws -/
namespace G2
open PySem L2 D C
def t1_l_book : DS := (sSeq (sSet 7 (appU f_l_more (acons (appU f_l_hand (acons (var 0) (acons (var 5) anil))) (acons (var 3) anil)))) (sSeq (sSet 8 (bin ix2 (var 4) (bin mod2 (bin sub2 (var 5) (var 2)) (appN lenN (acons (var 4) anil))))) (sSeq (sIf (tst (bin lt2 (bin add2 (lenR (var 8)) (appN lenN (acons (var 7) anil))) (cst (.int 60)))) (sSeq (sExtR (var 8) (var 7)) sNil) sNil) sNil)))
def t2_l_book : DS := (sSeq (sApp 6 (bin add2 (var 9) (appN szT (acons (appU f_l_fitted (acons (newL (catR (var 8) (appN szL (acons (appN szT (acons (cst (.str (Str.ofString "on"))) anil)) anil)))) anil)) anil)))) sNil)
def b_l_book : DS := (sSeq (sSet 3 (appU f_l_heads (acons (var 0) (acons (var 1) anil)))) (sSeq (sSet 4 (newL (compD (itemsD (bin ix2 (var 3) (cst (.int 0)))) [9] (tgN 9) yesT (refL (szDL anil))))) (sSeq (sFor (itA rng2 (acons (var 2) (acons (appN maxN (acons (bin add2 (var 2) (cst (.int 9))) (acons (appN minN (acons (appN lenN (acons (var 0) anil)) (acons (cst (.int 63)) anil))) anil))) anil))) (tgN 5) t1_l_book) (sSeq (sOwn 6 (szDL anil)) (sSeq (sFor (itA zipN (acons (bin ix2 (var 3) (cst (.int 0))) (acons (var 4) anil))) (tgT [9, 8]) t2_l_book) (sSeq (frzS 6 (sRet (appN szT (acons (var 6) (acons (bin ix2 (var 3) (cst (.int 1))) (acons (bin ix2 (var 3) (cst (.int 2))) anil)))))) sNil))))))
def f_l_book : List U → Store → Rs U := runB 10 3 b_l_book

theorem for_enum {i j : Nat} {b : DS} {st : Store} (us : List U) (I : Nat → D.Env → Prop) {env : D.Env} (h0 : I 0 env) (step : ∀ k u env, us[k]? = some u → I k env → ∃ env', b ((env.set i (.val (.int (k : Int)))).set j (.val u)) st = .nx env' st ∧ I (k + 1) env') :
    ∃ env', forL (tgT [i, j]) b (numU us) env st = .nx env' st ∧ I us.length env' := by
  have q := for_check0 (t := tgT [i, j]) (b := b) (st := st) (r := .non) I (fun _ => true) (numU us) env h0 (fun k u env hk hI _ => by
    obtain ⟨v, hv, rfl⟩ := num_get us k u hk
    obtain ⟨env', e, hi⟩ := step k v env hv hI
    exact ⟨_, tgT2_ap _ _ _ _, .inl ⟨rfl, env', .inl e, hi⟩⟩)
  rw [num_len] at q
  rcases q with ⟨_, env', e, hi⟩ | ⟨z, _⟩
  · exact ⟨env', e, hi⟩
  · rw [List.all_eq_false] at z
    obtain ⟨x, _, hx⟩ := z
    exact absurd rfl hx
theorem fit_len (rs : List Row) : (fitAll rs).length = rs.length := by unfold fitAll; simp
theorem fit_get (rs : List Row) (k : Nat) (h : k < (fitAll rs).length) : (fitAll rs)[k] = fitR (rs.length - 1 - k) (rs[k]'(by rw [fit_len] at h; exact h)) := by
  have hk : k < rs.length := by rw [fit_len] at h; exact h
  have g : rs.getD k .on = rs[k] := by rw [List.getD_eq_getElem?_getD, List.getElem?_eq_getElem hk]; rfl
  simp only [fitAll, List.getElem_map, List.getElem_range, g]
theorem fit_take (rs : List Row) (k : Nat) (hk : k < rs.length) : (fitAll rs).take (k + 1) = (fitAll rs).take k ++ [fitR (rs.length - 1 - k) rs[k]] := by
  have h : k < (fitAll rs).length := by rw [fit_len]; exact hk
  rw [List.take_add_one, List.getElem?_eq_getElem h, fit_get]
  rfl
theorem fitted_ok (rs : List Row) (hl : rs.length ≤ 1000) (st : Store) : f_l_fitted [.lst (rs.map Row.u)] st = .ok (.tup ((fitAll rs).map Row.u)) st := by
  have ln : lenN [.lst (rs.map Row.u)] = some (.int (rs.length : Int)) := by simp
  obtain ⟨env', he, s2, s3, s4, rfl⟩ := for_enum (i := 2) (j := 3) (b := t1_l_fitted) (st := st) (rs.map Row.u) (fun k env => ∃ s2 s3 s4, env = [.val (.lst (rs.map Row.u)), .own (((fitAll rs).take k).map Row.u), s2, s3, s4]) (env := [.val (.lst (rs.map Row.u)), .own [], .un, .un, .un]) ⟨_, _, _, rfl⟩ (fun k u env hk hI => by
    obtain ⟨s2, s3, s4, rfl⟩ := hI
    rw [List.getElem?_map, Option.map_eq_some_iff] at hk
    obtain ⟨r, hr, rfl⟩ := hk
    obtain ⟨hlt, hr2⟩ := List.getElem?_eq_some_iff.mp hr
    obtain ⟨t3, t4, e⟩ := fit_turn (.lst (rs.map Row.u)) rs.length k hlt r ((fitAll rs).take k) (by rw [List.length_take]; omega) s4 st ln
    exact ⟨_, e, _, _, _, by rw [fit_take rs k hlt, hr2]⟩)
  rw [List.length_map, List.take_of_length_le (by rw [fit_len]; exact Nat.le_refl _)] at he
  unfold f_l_fitted b_l_fitted
  have en : enumerateN [.lst (rs.map Row.u)] = some (numU (rs.map Row.u)) := rfl
  generalize U.lst (rs.map Row.u) = RU at *
  simp [en, he, frzE, frz1]
theorem comp_refs {T : Type} {f : T → U} {env : D.Env} {i : Nat} : ∀ (l : List T) (st : Store), compL (tgN i) yesT (refL (szDL anil)) (l.map f) env st = .ok ((List.range l.length).map fun j => U.ref (st.length + j)) (st ++ List.replicate l.length (.lst []))
  | [], st => by rw [List.map_nil, comp_nil]; simp
  | x :: l, st => by
    rw [List.map_cons, comp_cons, tgN_ap]
    have ih := comp_refs (f := f) (env := env) (i := i) l (st ++ [.lst []])
    simp only [yesT_ap, bind_ok, if_true, refL_ap, szDL_ap, anil_ap, List.length_nil, Nat.zero_le, ih]
    congr 1
    · rw [List.length_cons, List.range_succ_eq_map, List.map_cons, List.map_map]
      congr 1
      apply List.map_congr_left
      intro j _
      show U.ref ((st ++ [Ob.lst []]).length + j) = U.ref (st.length + (j + 1))
      rw [List.length_append, List.length_singleton]
      congr 1
      omega
    · rw [List.length_cons, List.replicate_succ, List.append_assoc]; rfl
/-- the rows as they lie in the store -/
def RowsIn (R : List Str) (B H : Nat) (s : Store) : Prop := ∀ j, j < H → ∃ rs : List Row, s[B + j]? = some (.lst (rs.map Row.u)) ∧ rs.length < 60 ∧ ∀ r ∈ rs, PreR R r
def refsU (B H : Nat) : U := .lst ((List.range H).map fun j => U.ref (B + j))
theorem refs_at (B H j : Nat) (h : j < H) : ix2 (refsU B H) (.int (j : Int)) = some (.ref (B + j)) := atI_at (by rw [List.getElem?_map, List.getElem?_range h]; rfl)
set_option maxHeartbeats 4000000 in
theorem book_turn (ns : List Int) (k : Kit) (hk : KitOk k) (B first x : Nat) (hx : first ≤ x) (hx2 : x ≤ 1000) (M s6 s7 s8 s9 : Sl) (s : Store) (h : RowsIn k.roster B k.heads.length s) :
    ∃ t7 t8 s', RowsIn k.roster B k.heads.length s' ∧ t1_l_book [.val (.scr ns), M, .val (.int (first : Int)), .val k.u, .val (refsU B k.heads.length), .val (.int (x : Int)), s6, s7, s8, s9] s = .nx [.val (.scr ns), M, .val (.int (first : Int)), .val k.u, .val (refsU B k.heads.length), .val (.int (x : Int)), s6, t7, t8, s9] s' := by
  obtain ⟨ob, e1, hob⟩ := hand_ok ns x (by omega) s
  obtain ⟨_, s2, e2, k2, more, rfl, hml, hmo⟩ := more_ok k hk s.length (s ++ [ob]) ⟨ob, by simp, hob⟩
  have hH := hk.len
  obtain ⟨j, hj⟩ : ∃ j : Nat, j = (x - first) % k.heads.length := ⟨_, rfl⟩
  have hjH : j < k.heads.length := by rw [hj]; exact Nat.mod_lt _ (by omega)
  have hji : ((x : Int) - (first : Int)) % (k.heads.length : Int) = (j : Int) := by
    rw [hj, Int.natCast_emod]
    congr 1
    omega
  have keepR : ∀ i, i < k.heads.length → s2[B + i]? = s[B + i]? := fun i hi => by
    obtain ⟨rs, q, _⟩ := h i hi
    have hlt := (List.getElem?_eq_some_iff.mp q).1
    rw [k2.oth (B + i) (by omega), List.getElem?_append_left hlt]
  obtain ⟨rs, q1, q2, q3⟩ := h j hjH
  have q1' : s2[B + j]? = some (.lst (rs.map Row.u)) := by rw [keepR j hjH]; exact q1
  have hB : B + j < s2.length := (List.getElem?_eq_some_iff.mp q1').1
  have ixr := refs_at B k.heads.length j hjH
  have lnr : lenN [refsU B k.heads.length] = some (.int (k.heads.length : Int)) := by
    unfold refsU
    simp
  have md : mod2 (.int ((x : Int) - (first : Int))) (.int (k.heads.length : Int)) = some (.int (j : Int)) := by
    rw [mod_int, if_pos (by omega), hji]
  have sb : sub2 (.int (x : Int)) (.int (first : Int)) = some (.int ((x : Int) - (first : Int))) := rfl
  generalize U.int ((x : Int) - (first : Int)) = XF at *
  by_cases hf : rs.length + more.length < 60
  · refine ⟨.val (.lst (more.map Row.u)), .val (.ref (B + j)), s2.set (B + j) (.lst ((rs ++ more).map Row.u)), fun i hi => ?_, ?_⟩
    · by_cases hij : i = j
      · subst hij
        exact ⟨rs ++ more, List.getElem?_set_self hB, by rw [List.length_append]; exact hf, fun r hr => by
          rcases List.mem_append.mp hr with z | z
          · exact q3 r z
          · exact hmo r z⟩
      · obtain ⟨rs', p1, p2, p3⟩ := h i hi
        exact ⟨rs', by rw [List.getElem?_set_ne (by omega), keepR i hi]; exact p1, p2, p3⟩
    · have hfi : (rs.length : Int) + (more.length : Int) < 60 := by omega
      have hz : rs.length + more.length ≤ 16777216 := by omega
      generalize k.u = KU at *
      generalize refsU B k.heads.length = RR at *
      generalize (k.heads.length : Int) = HL at *
      unfold t1_l_book
      simp [e1, e2, sb, lnr, md, ixr, q1', hfi, hf, hz, seqU, -sub_int]
  · refine ⟨.val (.lst (more.map Row.u)), .val (.ref (B + j)), s2, fun i hi => ?_, ?_⟩
    · obtain ⟨rs', p1, p2, p3⟩ := h i hi
      exact ⟨rs', by rw [keepR i hi]; exact p1, p2, p3⟩
    · have hfi : ¬ (rs.length : Int) + (more.length : Int) < 60 := by omega
      generalize k.u = KU at *
      generalize refsU B k.heads.length = RR at *
      generalize (k.heads.length : Int) = HL at *
      unfold t1_l_book
      simp [e1, e2, sb, lnr, md, ixr, q1', hfi, hf, -sub_int]
end G2
/-! YH: a book by draws, whole -/
namespace G2
open PySem L2 D C
structure BkOk (k : Kit) (b : List Piece) : Prop where
  len : b.length = k.heads.length
  names : b.map Piece.name = k.heads.map Hd.name
  ok : ∀ p ∈ b, p.ok = true
  words : ∀ p ∈ b, ∀ w ∈ p.words, w ∈ k.roster
def hd0 : Hd := ⟨Str.empty, [], []⟩
def pieceD (h : Hd) (rs : List Row) : Piece := ⟨h.name, h.own, h.params, fitAll (rs ++ [.on])⟩
theorem pieceD_ok {R : List Str} (h : Hd) (hh : HdOk R h) (rs : List Row) (hl : rs.length < 60) (hr : ∀ r ∈ rs, PreR R r) : (pieceD h rs).ok = true ∧ ∀ w ∈ (pieceD h rs).words, w ∈ R := by
  have pre : ∀ r ∈ rs ++ [Row.on], PreR R r := fun r hr' => by
    rcases List.mem_append.mp hr' with z | z
    · exact hr r z
    · rw [List.mem_singleton] at z; subst z; exact ⟨rfl, fun _ q => (nomatch q)⟩
  have ll : (rs ++ [Row.on]).length = rs.length + 1 := by simp
  have each : ∀ i (hi : i < (fitAll (rs ++ [Row.on])).length), ((fitAll (rs ++ [Row.on]))[i]).ok = true ∧ ((fitAll (rs ++ [Row.on]))[i]).goes ≤ (((rs ++ [Row.on]).length - 1 - i : Nat) : Int) ∧ ∀ w ∈ ((fitAll (rs ++ [Row.on]))[i]).leaves, w ∈ R := fun i hi => by
    rw [fit_get _ i hi]
    exact fit_ok _ _ (pre _ (List.getElem_mem _))
  have mem : ∀ r ∈ fitAll (rs ++ [Row.on]), r.ok = true ∧ ∀ w ∈ r.leaves, w ∈ R := fun r hr' => by
    obtain ⟨i, hi, rfl⟩ := List.getElem_of_mem hr'
    exact ⟨(each i hi).1, (each i hi).2.2⟩
  have fl : (fitAll (rs ++ [Row.on])).length = rs.length + 1 := by rw [fit_len, ll]
  refine ⟨(pok_iff _).mpr ⟨hh.name, hh.own, hh.params, by rw [show (pieceD h rs).params = h.params from rfl, ded_id hh.nd], ?_, ?_, fun r hr' => (mem r hr').1, fun i hi => ?_⟩, fun w hw => ?_⟩
  · show 1 ≤ (fitAll (rs ++ [Row.on])).length; omega
  · show (fitAll (rs ++ [Row.on])).length ≤ 60; omega
  · have g := (each i hi).2.1
    show (i : Int) + 1 + ((fitAll (rs ++ [Row.on]))[i]).goes ≤ ((fitAll (rs ++ [Row.on])).length : Nat)
    have hi' : i < (fitAll (rs ++ [Row.on])).length := hi
    rw [fl] at hi' ⊢
    omega
  · unfold Piece.words at hw
    rcases List.mem_append.mp hw with q | q
    · exact hh.sub w q
    · obtain ⟨r, hr', hw'⟩ := List.mem_flatMap.mp q
      exact (mem r hr').2 w hw'
set_option maxHeartbeats 4000000 in
theorem book_turn2 (h : Hd) (n : Nat) (rs : List Row) (hl : rs.length < 60) (acc : List Piece) (ha : acc.length ≤ 1000) (a0 a1 a2 a3 a4 a5 a7 : Sl) (s : Store) (hs : s[n]? = some (.lst (rs.map Row.u))) :
    t2_l_book [a0, a1, a2, a3, a4, a5, .own (acc.map Piece.u), a7, .val (.ref n), .val h.u] s = .nx [a0, a1, a2, a3, a4, a5, .own ((acc ++ [pieceD h rs]).map Piece.u), a7, .val (.ref n), .val h.u] s := by
  have e1 := fitted_ok (rs ++ [.on]) (by simp; omega) s
  have eu : (rs ++ [Row.on]).map Row.u = rs.map Row.u ++ [.tup [.str (Str.ofString "on")]] := by rw [List.map_append]; rfl
  rw [eu] at e1
  have ad : add2 h.u (.tup [.tup ((fitAll (rs ++ [.on])).map Row.u)]) = some (pieceD h rs).u := by
    show add2 (.tup [.str h.name, tS h.own, tS h.params]) _ = _
    rw [add_tups, if_pos (by simp)]
    rfl
  have hz : rs.length ≤ 16777215 := by omega
  have hla : acc.length < 16777216 := by omega
  have mp : (acc ++ [pieceD h rs]).map Piece.u = acc.map Piece.u ++ [(pieceD h rs).u] := by simp
  rw [mp]
  generalize h.u = HU at *
  generalize (pieceD h rs).u = PU at *
  generalize hF : (fitAll (rs ++ [.on])).map Row.u = FU at *
  unfold t2_l_book
  simp [hs, hz, e1, ad, hla, -add_tups]
theorem zip_refs (hs : List Hd) (B : Nat) : zipU (hs.map Hd.u) ((List.range hs.length).map fun j => U.ref (B + j)) = (List.range hs.length).map fun j => U.tup [(hs.getD j hd0).u, .ref (B + j)] := by
  unfold zipU
  apply List.ext_getElem?
  intro i
  rw [List.getElem?_zipWith, List.getElem?_map, List.getElem?_map, List.getElem?_map]
  by_cases h : i < hs.length
  · rw [List.getElem?_eq_getElem h, List.getElem?_range h]
    simp [List.getD_eq_getElem?_getD, List.getElem?_eq_getElem h]
  · rw [List.getElem?_eq_none (by omega), List.getElem?_eq_none (by simp; omega)]
    rfl
/-- a loop over numbers -/
theorem for_rngT {t : Tg} {b : DS} {st : Store} {f : Nat → U} (m : Nat) (I : Nat → D.Env → Prop) {env : D.Env} (h0 : I 0 env) (step : ∀ k env, k < m → I k env → ∃ a env', t (f k) = some a ∧ b (setE env a) st = .nx env' st ∧ I (k + 1) env') : ∃ env', forL t b ((List.range m).map f) env st = .nx env' st ∧ I m env' := by
  have q := for_check0 (t := t) (b := b) (st := st) (r := .non) I (fun _ => true) ((List.range m).map f) env h0 (fun k u env hk hI _ => by
    rw [List.getElem?_map, Option.map_eq_some_iff] at hk
    obtain ⟨k', hk', rfl⟩ := hk
    have hlt : k < m := by have := (List.getElem?_eq_some_iff.mp hk').1; simpa using this
    have : k' = k := by rw [List.getElem?_range hlt] at hk'; exact (Option.some.inj hk').symm
    subst this
    obtain ⟨a, env', e0, e, hi⟩ := step k' env hlt hI
    exact ⟨a, e0, .inl ⟨rfl, env', .inl e, hi⟩⟩)
  rw [List.length_map, List.length_range] at q
  rcases q with ⟨_, env', e, hi⟩ | ⟨z, _⟩
  · exact ⟨env', e, hi⟩
  · rw [List.all_eq_false] at z
    obtain ⟨x, _, hx⟩ := z
    exact absurd rfl hx
set_option maxHeartbeats 8000000 in
theorem book_ok (ns : List Int) (most first : Nat) (h1 : 1 ≤ most) (h8 : most ≤ 8) (hf : first ≤ 100) (st : Store) : ∃ (b : List Piece) (k : Kit) (st' : Store), f_l_book [.scr ns, .int (most : Int), .int (first : Int)] st = .ok (.tup [bookU b, lS k.roster, lS k.pool]) st' ∧ KitOk k ∧ BkOk k b := by
  obtain ⟨k, ob, e1, hk, hob⟩ := heads_ok ns most h1 h8 st
  obtain ⟨st1, hst1⟩ : ∃ s : Store, s = st ++ [ob] := ⟨_, rfl⟩
  rw [← hst1] at e1
  obtain ⟨B, hB⟩ : ∃ B, B = st1.length := ⟨_, rfl⟩
  obtain ⟨H, hH⟩ : ∃ H, H = k.heads.length := ⟨_, rfl⟩
  obtain ⟨st2, hst2⟩ : ∃ s : Store, s = st1 ++ List.replicate H (.lst []) := ⟨_, rfl⟩
  have cr : ∀ env : D.Env, compL (tgN 9) yesT (refL (szDL anil)) (k.heads.map Hd.u) env st1 = .ok ((List.range H).map fun j => U.ref (B + j)) st2 := fun env => by
    rw [comp_refs, ← hH, ← hB, ← hst2]
  have r0 : RowsIn k.roster B H st2 := fun j hj => ⟨[], by rw [hst2, hB, List.getElem?_append_right (by omega), show st1.length + j - st1.length = j by omega, List.getElem?_replicate, if_pos hj]; rfl, by simp, fun _ z => (nomatch z)⟩
  obtain ⟨E, hE⟩ : ∃ E : Nat, (E : Int) = (if (if (63 : Int) < (ns.length : Int) then 63 else (ns.length : Int)) > (first : Int) + 9 then (if (63 : Int) < (ns.length : Int) then 63 else (ns.length : Int)) else (first : Int) + 9) := by
    generalize hz : (if (63 : Int) < (ns.length : Int) then 63 else (ns.length : Int)) = z
    have : 0 ≤ z := by rw [← hz]; split <;> omega
    by_cases q : z > (first : Int) + 9
    · exact ⟨z.toNat, by rw [if_pos q]; omega⟩
    · exact ⟨first + 9, by rw [if_neg q]; omega⟩
  have hE2 : E ≤ 200 := by
    have : (E : Int) ≤ 200 := by rw [hE]; split <;> (split <;> omega)
    omega
  obtain ⟨env3, st3, he3, s5, s7, s8, hr3, rfl⟩ := for_stL (t := tgN 5) (b := t1_l_book) (f := fun i : Nat => U.int ((first : Int) + (i : Nat))) (fun _ env s => ∃ s5 s7 s8, RowsIn k.roster B H s ∧ env = [.val (.scr ns), .val (.int (most : Int)), .val (.int (first : Int)), .val k.u, .val (refsU B H), s5, .un, s7, s8, .un]) (List.range (E - first)) [.val (.scr ns), .val (.int (most : Int)), .val (.int (first : Int)), .val k.u, .val (refsU B H), .un, .un, .un, .un, .un] st2 ⟨_, _, _, r0, rfl⟩ (fun x r env s hx hI => by
    obtain ⟨s5, s7, s8, hr, rfl⟩ := hI
    have hx := List.mem_range.mp hx
    rw [hH] at hr ⊢
    obtain ⟨t7, t8, s', hr', e⟩ := book_turn ns k hk B first (first + x) (by omega) (by omega) (.val (.int (most : Int))) .un s7 s8 .un s hr
    have ei : U.int ((first : Int) + (x : Nat)) = U.int ((first + x : Nat) : Int) := by congr 1
    refine ⟨[(5, U.int ((first : Int) + (x : Nat)))], _, s', rfl, ?_, .val (.int ((first + x : Nat) : Int)), t7, t8, hr', rfl⟩
    rw [ei]
    exact e)
  have hh : ∀ j, j < H → HdOk k.roster (k.heads.getD j hd0) := fun j hj => by
    rw [List.getD_eq_getElem?_getD, List.getElem?_eq_getElem (by omega)]
    exact hk.heads _ (List.getElem_mem _)
  obtain ⟨env4, he4, b, t5, t8, t9, bl, bn, bo, rfl⟩ := for_rngT (t := tgT [9, 8]) (b := t2_l_book) (st := st3) (f := fun j => U.tup [(k.heads.getD j hd0).u, .ref (B + j)]) H (fun j env => ∃ (b : List Piece) (s5 s8 s9 : Sl), b.length = j ∧ b.map Piece.name = (k.heads.map Hd.name).take j ∧ (∀ p ∈ b, p.ok = true ∧ ∀ w ∈ p.words, w ∈ k.roster) ∧ env = [.val (.scr ns), .val (.int (most : Int)), .val (.int (first : Int)), .val k.u, .val (refsU B H), s5, .own (b.map Piece.u), s7, s8, s9]) (env := [.val (.scr ns), .val (.int (most : Int)), .val (.int (first : Int)), .val k.u, .val (refsU B H), s5, .own [], s7, s8, .un]) ⟨[], _, _, _, rfl, rfl, fun _ z => (nomatch z), rfl⟩ (fun j env hj hI => by
    obtain ⟨b, s5, s8, s9, bl, bn, bo, rfl⟩ := hI
    obtain ⟨rs, q1, q2, q3⟩ := hr3 j hj
    have e := book_turn2 (k.heads.getD j hd0) (B + j) rs q2 b (by have := hk.len2; omega) (.val (.scr ns)) (.val (.int (most : Int))) (.val (.int (first : Int))) (.val k.u) (.val (refsU B H)) s5 s7 st3 q1
    obtain ⟨p1, p2⟩ := pieceD_ok (k.heads.getD j hd0) (hh j hj) rs q2 q3
    refine ⟨[(9, (k.heads.getD j hd0).u), (8, .ref (B + j))], _, tgT2_ap _ _ _ _, e, b ++ [pieceD (k.heads.getD j hd0) rs], _, _, _, by rw [List.length_append, bl]; rfl, ?_, fun p hp => ?_, rfl⟩
    · rw [List.map_append, bn, List.take_add_one, List.getElem?_map, List.getElem?_eq_getElem (by omega)]
      congr 1
      show [(k.heads.getD j hd0).name] = _
      rw [List.getD_eq_getElem?_getD, List.getElem?_eq_getElem (by omega)]
      rfl
    · rcases List.mem_append.mp hp with z | z
      · exact bo p z
      · rw [List.mem_singleton] at z; subst z; exact ⟨p1, p2⟩)
  rw [List.take_of_length_le (by rw [List.length_map]; omega)] at bn
  refine ⟨b, k, st3, ?_, hk, ⟨by omega, bn, fun p hp => (bo p hp).1, fun p hp => (bo p hp).2⟩⟩
  have k0 : ix2 k.u (.int 0) = some (.lst (k.heads.map Hd.u)) := rfl
  have k1 : ix2 k.u (.int 1) = some (lS k.roster) := rfl
  have k2 : ix2 k.u (.int 2) = some (lS k.pool) := rfl
  have rg : rng2 [.int (first : Int), .int (E : Int)] = some ((List.range (E - first)).map fun i : Nat => U.int ((first : Int) + (i : Nat))) := by
    unfold rng2
    dsimp only
    rw [if_pos ⟨by omega, by omega, by omega, by omega⟩, show ((E : Int) - (first : Int)).toNat = E - first by omega]
  have mn : minN [.int (ns.length : Int), .int 63] = some (.int (if (63 : Int) < (ns.length : Int) then 63 else (ns.length : Int))) := rfl
  have mx : maxN [.int ((first : Int) + 9), .int (if (63 : Int) < (ns.length : Int) then 63 else (ns.length : Int))] = some (.int (E : Int)) := by rw [hE]; rfl
  have ad : add2 (.int (first : Int)) (.int 9) = some (.int ((first : Int) + 9)) := rfl
  have lnS : lenN [.scr ns] = some (.int (ns.length : Int)) := by simp
  have zp : zipN [.lst (k.heads.map Hd.u), refsU B H] = some ((List.range H).map fun j => U.tup [(k.heads.getD j hd0).u, .ref (B + j)]) := by
    show some (zipU _ _) = _
    rw [hH, zip_refs]
  have lh : (k.heads.map Hd.u).length ≤ 16777216 := by rw [List.length_map]; have := hk.len2; omega
  have hb : bookU b = .lst (b.map Piece.u) := rfl
  rw [hb]
  unfold refsU at he3 he4 zp
  generalize (List.range H).map (fun j => U.tup [(k.heads.getD j hd0).u, .ref (B + j)]) = ZZ at *
  generalize (List.range H).map (fun j => U.ref (B + j)) = RR at *
  generalize (List.range (E - first)).map (fun i : Nat => U.int ((first : Int) + (i : Nat))) = LL at *
  generalize U.int (if (63 : Int) < (ns.length : Int) then 63 else (ns.length : Int)) = MN at *
  generalize U.int ((first : Int) + 9) = F9 at *
  generalize U.int (E : Int) = EE at *
  generalize k.u = KU at *
  generalize lS k.roster = RO at *
  generalize lS k.pool = PO at *
  have it : items (.lst (k.heads.map Hd.u)) = some (k.heads.map Hd.u) := rfl
  generalize hHU : k.heads.map Hd.u = HU at *
  unfold f_l_book b_l_book
  simp only [runB_ap, env0_ap, List.length_cons, List.length_nil, List.map_cons, List.map_nil, List.replicate, List.cons_append, List.nil_append]
  simp [e1, k0, k1, k2, lh, wipeE, cr, ad, lnS, mn, mx, rg, he3, zp, he4, frzE, frz1, -add_int]
theorem good_of {k : Kit} {b : List Piece} (hk : KitOk k) (hb : BkOk k b) : goodB b ∧ (wordsB b).length < 4000 := by
  have h1 := hk.len
  have h2 := hk.len2
  refine ⟨⟨by rw [hb.len]; exact h1, by rw [hb.len]; omega, hb.ok, by rw [hb.names]; exact hk.nd, ?_⟩, ?_⟩
  · unfold rosterB
    rw [(sort_perm _).length_eq]
    have := G1.nodup_len (dedS (wordsB b)) k.roster (ded_nodup _) fun w hw => by
      rw [ded_mem] at hw
      unfold wordsB at hw
      obtain ⟨p, hp, hw⟩ := List.mem_flatMap.mp hw
      exact hb.words p hp w hw
    exact Nat.le_trans this hk.r2
  · unfold wordsB
    have := flat_len Piece.words 488 b fun p hp => by
      have w := words_len (hb.ok p hp)
      have l := ((pok_iff p).mp (hb.ok p hp)).len2
      omega
    have hl := hb.len
    have : b.length * 488 ≤ 8 * 488 := Nat.mul_le_mul_right _ (by omega)
    omega
end G2
/-! YI: texts of rows, pieces, books -/
namespace TX
open PySem L2 D C
def t1_l_row_text : DS := (sSeq (sIf (andT (tst (bin in2 (bin ix2 (var 0) (cst (.int 0))) (appN szT (acons (cst (.str (Str.ofString "call"))) (acons (cst (.str (Str.ofString "last"))) anil))))) (tst (bin eq2 (var 2) (bin sub2 (appN lenN (acons (var 0) anil)) (cst (.int 2)))))) (sSeq (sApp 1 (cst (.str (Str.ofString "!")))) sNil) sNil) (sSeq (sExt 1 (ifE (tst (appN isiN (acons (var 3) (acons (cst (.ty "tuple")) anil)))) (var 3) (appN szL (acons (appN strN (acons (var 3) anil)) anil)))) sNil))
def b_l_row_text : DS := (sSeq (sOwn 1 (szDL (acons (bin ix2 (var 0) (cst (.int 0))) anil))) (sSeq (sFor (itA enumerateN (acons (slD (var 0) (soO (cst (.int 1))) noO) anil)) (tgT [2, 3]) t1_l_row_text) (sSeq (frzS 1 (sRet (joinD (cst (.str (Str.ofString " "))) (var 1)))) sNil)))
def f_l_row_text : List U → Store → Rs U := runB 4 1 b_l_row_text
def b_l_piece_text : DS := (sSeq (sUnp (tgA [2, 3, 4, 5]) (var 0)) (sSeq (sSet 1 (joinD (cst (.str (Str.ofString " "))) (bin add2 (bin add2 (bin add2 (appN szL (acons (cst (.str (Str.ofString "piece"))) (acons (var 2) anil))) (newL (itA lstL (acons (var 4) anil)))) (appN szL (acons (cst (.str (Str.ofString "!"))) anil))) (newL (itA lstL (acons (var 3) anil)))))) (sSeq (sRet (joinD (cst (.str (Str.ofString "\n"))) (bin add2 (appN szL (acons (var 1) anil)) (newL (compD (itemsD (var 5)) [6] (tgN 6) yesT (appU f_l_row_text (acons (var 6) anil))))))) sNil)))
def f_l_piece_text : List U → Store → Rs U := runB 7 1 b_l_piece_text
def b_part_shown : DS := (sSeq (sIf (tst (bin eq2 (var 0) (cst (.str (Str.ofString "leaves"))))) (sSeq (sRet (bin add2 (appN szL (acons (cst (.str (Str.ofString "!"))) anil)) (newL (itA lstL (acons (var 1) anil))))) sNil) sNil) (sSeq (sIf (tst (bin eq2 (var 0) (cst (.str (Str.ofString "args"))))) (sSeq (sRet (newL (itA lstL (acons (var 1) anil)))) sNil) sNil) (sSeq (sRet (appN szL (acons (appN strN (acons (var 1) anil)) anil))) sNil)))
def f_part_shown : List U → Store → Rs U := runB 2 2 b_part_shown
def t1_shown_row : DS := (sSeq (sExt 1 (appU f_part_shown (acons (var 2) (acons (var 3) anil)))) sNil)
def b_shown_row : DS := (sSeq (sOwn 1 (szDL (acons (bin ix2 (var 0) (cst (.int 0))) anil))) (sSeq (sFor (itA zipN (acons (ap1 (tabGet tab_PARTS) (bin ix2 (var 0) (cst (.int 0)))) (acons (slD (var 0) (soO (cst (.int 1))) noO) anil))) (tgT [2, 3]) t1_shown_row) (sSeq (frzS 1 (sRet (joinD (cst (.str (Str.ofString " "))) (var 1)))) sNil)))
def f_shown_row : List U → Store → Rs U := runB 4 1 b_shown_row
def b_piece_shown : DS := (sSeq (sSet 1 (joinD (cst (.str (Str.ofString " "))) (bin add2 (bin add2 (bin add2 (appN szL (acons (cst (.str (Str.ofString "piece"))) (acons (bin ix2 (var 0) (cst (.int 0))) anil))) (newL (itA lstL (acons (bin ix2 (var 0) (cst (.int 2))) anil)))) (appN szL (acons (cst (.str (Str.ofString "!"))) anil))) (newL (itA lstL (acons (bin ix2 (var 0) (cst (.int 1))) anil)))))) (sSeq (sRet (joinD (cst (.str (Str.ofString "\n"))) (bin add2 (appN szL (acons (var 1) anil)) (newL (compD (itemsD (bin ix2 (var 0) (cst (.int 3)))) [2] (tgN 2) yesT (appU f_shown_row (acons (var 2) anil))))))) sNil))
def f_piece_shown : List U → Store → Rs U := runB 3 1 b_piece_shown

def num (i : Int) : Str := Str.ofString (toString i)
def bang : Str := Str.ofString "!"
def sp : Str := Str.ofString " "
def nl : Str := Str.ofString "\n"
/-- the words of a row -/
def wd : Row → List Str
  | .set x n => [Str.ofString "set", x, num n]
  | .same x a => [Str.ofString "same", x, a]
  | .sum x a b => [Str.ofString "sum", x, a, b]
  | .less x a b => [Str.ofString "less", x, a, b]
  | .hold x n as => [Str.ofString "hold", x, n] ++ as
  | .call x f as vs => [Str.ofString "call", x, f] ++ as ++ (bang :: vs)
  | .last f as vs => [Str.ofString "last", f] ++ as ++ (bang :: vs)
  | .give a => [Str.ofString "give", a]
  | .keep c a => [Str.ofString "keep", c, a]
  | .kept x c => [Str.ofString "kept", x, c]
  | .skip a k => [Str.ofString "skip", a, num k]
  | .over k => [Str.ofString "over", num k]
  | .on => [Str.ofString "on"]
  | .count => [Str.ofString "count"]
  | .ask w k => [Str.ofString "ask", w, num k]
  | .deed w a => [Str.ofString "deed", w, a]
  | .done w a => [Str.ofString "done", w, a]
def rowT (r : Row) : Str := Txt.join sp (wd r)
def headW (p : Piece) : List Str := [Str.ofString "piece", p.name] ++ p.params ++ [bang] ++ p.own
def pieceT (p : Piece) : Str := Txt.join nl (Txt.join sp (headW p) :: p.rows.map rowT)
def bookT (b : List Piece) : Str := Txt.join nl (b.map pieceT)
/-- a row whose parts are no too great ones -/
structure Fit (r : Row) : Prop where
  ok : r.ok = true
  goes : r.goes ≤ 60
theorem sum_le (m : Nat) : ∀ ws : List Str, (∀ w ∈ ws, w.length ≤ m) → (ws.map (·.length)).sum ≤ ws.length * m
  | [], _ => Nat.zero_le _
  | w :: ws, h => by
    have h1 := h w (List.mem_cons_self ..)
    have h2 := sum_le m ws fun x hx => h x (List.mem_cons_of_mem _ hx)
    rw [List.map_cons, List.sum_cons, List.length_cons, Nat.add_mul]
    omega
theorem join_len (s : Str) (ws : List Str) (m : Nat) (h : ∀ w ∈ ws, w.length ≤ m) : (Txt.join s ws).length ≤ ws.length * m + ws.length * s.length := by
  have e : (Txt.join s ws).length = (ws.map (·.length)).sum + (ws.length - 1) * s.length := size_glued s ws
  have h1 := sum_le m ws h
  have h2 : (ws.length - 1) * s.length ≤ ws.length * s.length := Nat.mul_le_mul_right _ (Nat.sub_le _ _)
  omega
theorem join_ev (s : Str) (ws : List Str) (m : Nat) (h : ∀ w ∈ ws, w.length ≤ m) (hz : ws.length * m + ws.length * s.length ≤ 16777216) : join2 s (lS ws) = some (.str (Txt.join s ws)) := by
  unfold join2
  show (strsU (ws.map U.str)).bind _ = _
  rw [strs_map]
  have := sum_le m ws h
  have hz' : (ws.map (·.length)).sum + ws.length * s.length ≤ 16777216 := by omega
  simp only [Option.bind_some, if_pos hz']
theorem word_len {w : Str} (h : isWordS w = true) : w.length ≤ 8 := by
  unfold isWordS at h
  simp only [Bool.and_eq_true, decide_eq_true_eq] at h
  exact h.1.2
theorem num_len {i : Int} (h : -1000000000000000000 ≤ i ∧ i ≤ 1000000000000000000) : (num i).length ≤ 20 := by
  unfold num
  rw [ofString_length]
  exact int_text_length_le10 (k := 19) (by decide) (by omega)
theorem num_ev {i : Int} (h : -1000000000000000000 ≤ i ∧ i ≤ 1000000000000000000) : strN [.int i] = some (.str (num i)) := by
  unfold strN
  have : i.natAbs.log2 < 1920 := by
    by_cases z : i.natAbs = 0
    · rw [z]; decide
    · rw [Nat.log2_lt z]
      have : i.natAbs < 2 ^ 60 := by omega
      exact Nat.lt_of_lt_of_le this (Nat.pow_le_pow_right (by decide) (by decide))
  simp only [if_pos this]
  rfl
theorem okN_le {i : Int} (h : okN i = true) : -1000000000000000000 ≤ i ∧ i ≤ 1000000000000000000 := of_decide_eq_true h
theorem rw_len : ∀ w ∈ [Str.ofString "set", Str.ofString "same", Str.ofString "sum", Str.ofString "less", Str.ofString "hold", Str.ofString "call", Str.ofString "last", Str.ofString "give", Str.ofString "keep", Str.ofString "kept", Str.ofString "skip", Str.ofString "over", Str.ofString "on", Str.ofString "count", Str.ofString "ask", Str.ofString "deed", Str.ofString "done", Str.ofString "piece", bang], w.length ≤ 8 := by decide +kernel
theorem args20 {as : List Str} (h : argsS as = true) : ∀ w ∈ as, w.length ≤ 20 := fun w hw => Nat.le_trans (word_len (args_words h w hw)) (by decide)
theorem leaves20 {as : List Str} (h : leavesS as = true) : ∀ w ∈ as, w.length ≤ 20 := fun w hw => Nat.le_trans (word_len (leaves_words h w hw)) (by decide)
theorem w20 {w : Str} (h : isWordS w = true) : w.length ≤ 20 := Nat.le_trans (word_len h) (by decide)
theorem k20 {w : Str} (h : w ∈ [Str.ofString "set", Str.ofString "same", Str.ofString "sum", Str.ofString "less", Str.ofString "hold", Str.ofString "call", Str.ofString "last", Str.ofString "give", Str.ofString "keep", Str.ofString "kept", Str.ofString "skip", Str.ofString "over", Str.ofString "on", Str.ofString "count", Str.ofString "ask", Str.ofString "deed", Str.ofString "done", Str.ofString "piece", bang]) : w.length ≤ 20 := Nat.le_trans (rw_len w h) (by decide)
theorem fit_words {r : Row} (h : Fit r) : (∀ w ∈ wd r, w.length ≤ 20) ∧ (wd r).length ≤ 20 := by
  obtain ⟨h1, h2⟩ := h
  cases r with
  | set x n =>
    simp only [Row.ok, Bool.and_eq_true] at h1
    refine ⟨fun w hw => ?_, by simp [wd]⟩
    simp only [wd, List.mem_cons, List.not_mem_nil, or_false] at hw
    rcases hw with rfl | rfl | rfl
    · exact k20 (by simp)
    · exact w20 h1.1
    · exact num_len (okN_le h1.2)
  | same x a =>
    simp only [Row.ok, Bool.and_eq_true] at h1
    refine ⟨fun w hw => ?_, by simp [wd]⟩
    simp only [wd, List.mem_cons, List.not_mem_nil, or_false] at hw
    rcases hw with rfl | rfl | rfl
    · exact k20 (by simp)
    · exact w20 h1.1
    · exact w20 h1.2
  | sum x a b =>
    simp only [Row.ok, Bool.and_eq_true] at h1
    refine ⟨fun w hw => ?_, by simp [wd]⟩
    simp only [wd, List.mem_cons, List.not_mem_nil, or_false] at hw
    rcases hw with rfl | rfl | rfl | rfl
    · exact k20 (by simp)
    · exact w20 h1.1.1
    · exact w20 h1.1.2
    · exact w20 h1.2
  | less x a b =>
    simp only [Row.ok, Bool.and_eq_true] at h1
    refine ⟨fun w hw => ?_, by simp [wd]⟩
    simp only [wd, List.mem_cons, List.not_mem_nil, or_false] at hw
    rcases hw with rfl | rfl | rfl | rfl
    · exact k20 (by simp)
    · exact w20 h1.1.1
    · exact w20 h1.1.2
    · exact w20 h1.2
  | hold x n as =>
    simp only [Row.ok, Bool.and_eq_true] at h1
    have := args_len h1.2
    refine ⟨fun w hw => ?_, by simp [wd]; omega⟩
    simp only [wd, List.cons_append, List.nil_append, List.mem_cons] at hw
    rcases hw with rfl | rfl | rfl | hw
    · exact k20 (by simp)
    · exact w20 h1.1.1
    · exact w20 h1.1.2
    · exact args20 h1.2 w hw
  | call x f as vs =>
    simp only [Row.ok, Bool.and_eq_true] at h1
    have l1 := args_len h1.1.2
    have l2 := leaves_len h1.2
    refine ⟨fun w hw => ?_, by simp [wd]; omega⟩
    simp only [wd, List.cons_append, List.nil_append, List.mem_cons, List.mem_append] at hw
    rcases hw with rfl | rfl | rfl | hw | rfl | hw
    · exact k20 (by simp)
    · exact w20 h1.1.1.1
    · exact w20 h1.1.1.2
    · exact args20 h1.1.2 w hw
    · exact k20 (by simp)
    · exact leaves20 h1.2 w hw
  | last f as vs =>
    simp only [Row.ok, Bool.and_eq_true] at h1
    have l1 := args_len h1.1.2
    have l2 := leaves_len h1.2
    refine ⟨fun w hw => ?_, by simp [wd]; omega⟩
    simp only [wd, List.cons_append, List.nil_append, List.mem_cons, List.mem_append] at hw
    rcases hw with rfl | rfl | hw | rfl | hw
    · exact k20 (by simp)
    · exact w20 h1.1.1
    · exact args20 h1.1.2 w hw
    · exact k20 (by simp)
    · exact leaves20 h1.2 w hw
  | give a =>
    refine ⟨fun w hw => ?_, by simp [wd]⟩
    simp only [wd, List.mem_cons, List.not_mem_nil, or_false] at hw
    rcases hw with rfl | rfl
    · exact k20 (by simp)
    · exact w20 h1
  | keep x a =>
    simp only [Row.ok, Bool.and_eq_true] at h1
    refine ⟨fun w hw => ?_, by simp [wd]⟩
    simp only [wd, List.mem_cons, List.not_mem_nil, or_false] at hw
    rcases hw with rfl | rfl | rfl
    · exact k20 (by simp)
    · exact w20 h1.1
    · exact w20 h1.2
  | kept x a =>
    simp only [Row.ok, Bool.and_eq_true] at h1
    refine ⟨fun w hw => ?_, by simp [wd]⟩
    simp only [wd, List.mem_cons, List.not_mem_nil, or_false] at hw
    rcases hw with rfl | rfl | rfl
    · exact k20 (by simp)
    · exact w20 h1.1
    · exact w20 h1.2
  | skip a k =>
    simp only [Row.ok, Bool.and_eq_true, decide_eq_true_eq] at h1
    have h2 : k ≤ 60 := h2
    refine ⟨fun w hw => ?_, by simp [wd]⟩
    simp only [wd, List.mem_cons, List.not_mem_nil, or_false] at hw
    rcases hw with rfl | rfl | rfl
    · exact k20 (by simp)
    · exact w20 h1.1
    · exact num_len ⟨by omega, by omega⟩
  | over k =>
    simp only [Row.ok, decide_eq_true_eq] at h1
    have h2 : k ≤ 60 := h2
    refine ⟨fun w hw => ?_, by simp [wd]⟩
    simp only [wd, List.mem_cons, List.not_mem_nil, or_false] at hw
    rcases hw with rfl | rfl
    · exact k20 (by simp)
    · exact num_len ⟨by omega, by omega⟩
  | on =>
    refine ⟨fun w hw => ?_, by simp [wd]⟩
    simp only [wd, List.mem_cons, List.not_mem_nil, or_false] at hw
    subst hw
    exact k20 (by simp)
  | count =>
    refine ⟨fun w hw => ?_, by simp [wd]⟩
    simp only [wd, List.mem_cons, List.not_mem_nil, or_false] at hw
    subst hw
    exact k20 (by simp)
  | ask w' k =>
    simp only [Row.ok, Bool.and_eq_true, decide_eq_true_eq] at h1
    have h2 : k ≤ 60 := h2
    refine ⟨fun w hw => ?_, by simp [wd]⟩
    simp only [wd, List.mem_cons, List.not_mem_nil, or_false] at hw
    rcases hw with rfl | rfl | rfl
    · exact k20 (by simp)
    · exact w20 h1.1
    · exact num_len ⟨by omega, by omega⟩
  | deed x a =>
    simp only [Row.ok, Bool.and_eq_true] at h1
    refine ⟨fun w hw => ?_, by simp [wd]⟩
    simp only [wd, List.mem_cons, List.not_mem_nil, or_false] at hw
    rcases hw with rfl | rfl | rfl
    · exact k20 (by simp)
    · exact w20 h1.1
    · exact w20 h1.2
  | done x a =>
    simp only [Row.ok, Bool.and_eq_true] at h1
    refine ⟨fun w hw => ?_, by simp [wd]⟩
    simp only [wd, List.mem_cons, List.not_mem_nil, or_false] at hw
    rcases hw with rfl | rfl | rfl
    · exact k20 (by simp)
    · exact w20 h1.1
    · exact w20 h1.2
/-! ### one part more -/
/-- the words of a part -/
inductive PW : U → List Str → Prop
  | str (a : Str) : PW (.str a) [a]
  | int (i : Int) (h : -1000000000000000000 ≤ i ∧ i ≤ 1000000000000000000) : PW (.int i) [num i]
  | tup (ws : List Str) (h : ws.length ≤ 100) : PW (tS ws) ws
theorem law_turn (R : U) (q : Str) (L k : Nat) (hR : ix2 R (.int 0) = some (.str q)) (hL : lenN [R] = some (.int (L : Int))) (hL2 : 2 ≤ L) (acc : List Str) (ha : acc.length ≤ 100) (part : U) (ws : List Str) (hp : PW part ws) (st : Store) :
    t1_l_row_text [.val R, .own (acc.map U.str), .val (.int (k : Int)), .val part] st = .nx [.val R, .own ((acc ++ (if (q = Str.ofString "call" ∨ q = Str.ofString "last") ∧ k + 2 = L then bang :: ws else ws)).map U.str), .val (.int (k : Int)), .val part] st := by
  have e1 := in2' q (Str.ofString "call") (Str.ofString "last")
  have sb : (L : Int) - 2 = ((L - 2 : Nat) : Int) := by omega
  have hl : acc.length < 16777216 := by omega
  have h15 : acc.length ≤ 16777215 := by omega
  have h14 : acc.length ≤ 16777214 := by omega
  have kl : (k = L - 2) = (k + 2 = L) := propext (by omega)
  unfold t1_l_row_text
  by_cases c : q = Str.ofString "call" ∨ q = Str.ofString "last"
  · by_cases c2 : k + 2 = L
    · rw [if_pos ⟨c, c2⟩]
      rw [decide_eq_true c] at e1
      have kk : (k : Int) = (L : Int) - 2 := by omega
      cases hp with
      | str a => simp [hR, e1, hL, kk, hl, seqU, bang, strN, h14, h15]
      | int i h => simp [hR, e1, hL, kk, hl, seqU, bang, num_ev h, h14, h15]
      | tup ws h =>
        have z1 : acc.length + 1 + ws.length ≤ 16777216 := by omega
        have z2 : acc.length + (ws.length + 1) ≤ 16777216 := by omega
        simp [hR, e1, hL, kk, hl, seqU, bang, z1, z2, tS]
    · rw [if_neg fun z => c2 z.2]
      rw [decide_eq_true c] at e1
      have kk : ¬ (k : Int) = (L : Int) - 2 := by omega
      cases hp with
      | str a => simp [hR, e1, hL, kk, hl, seqU, strN, h15]
      | int i h => simp [hR, e1, hL, kk, hl, seqU, num_ev h, h15]
      | tup ws h =>
        have z1 : acc.length + ws.length ≤ 16777216 := by omega
        simp [hR, e1, hL, kk, hl, seqU, z1, tS]
  · rw [if_neg fun z => c z.1]
    rw [decide_eq_false c] at e1
    cases hp with
    | str a => simp [hR, e1, hl, seqU, strN, h15]
    | int i h => simp [hR, e1, hl, seqU, num_ev h, h15]
    | tup ws h =>
      have z1 : acc.length + ws.length ≤ 16777216 := by omega
      simp [hR, e1, hl, seqU, z1, tS]
end TX
/-! YJ: texts made -/
namespace TX
open PySem L2 D C
abbrev wOver : Str := Str.ofString "over"
def kw : Row → Str
  | .set _ _ => Str.ofString "set"
  | .same _ _ => Str.ofString "same"
  | .sum _ _ _ => Str.ofString "sum"
  | .less _ _ _ => Str.ofString "less"
  | .hold _ _ _ => Str.ofString "hold"
  | .call _ _ _ _ => Str.ofString "call"
  | .last _ _ _ => Str.ofString "last"
  | .give _ => Str.ofString "give"
  | .keep _ _ => Str.ofString "keep"
  | .kept _ _ => Str.ofString "kept"
  | .skip _ _ => Str.ofString "skip"
  | .over _ => Str.ofString "over"
  | .on => Str.ofString "on"
  | .count => Str.ofString "count"
  | .ask _ _ => Str.ofString "ask"
  | .deed _ _ => Str.ofString "deed"
  | .done _ _ => Str.ofString "done"
/-- a part: its sort, itself, its words -/
abbrev Part := Str × U × List Str
def pW (a : Str) : Part := (wWord, .str a, [a])
def pN (i : Int) : Part := (wNumber, .int i, [num i])
def pO (i : Int) : Part := (wOver, .int i, [num i])
def pA (as : List Str) : Part := (wArgs, tS as, as)
def pL (as : List Str) : Part := (wLeaves, tS as, as)
def pt : Row → List Part
  | .set x n => [pW x, pN n]
  | .same x a => [pW x, pW a]
  | .sum x a b => [pW x, pW a, pW b]
  | .less x a b => [pW x, pW a, pW b]
  | .hold x n as => [pW x, pW n, pA as]
  | .call x f as vs => [pW x, pW f, pA as, pL vs]
  | .last f as vs => [pW f, pA as, pL vs]
  | .give a => [pW a]
  | .keep c a => [pW c, pW a]
  | .kept x c => [pW x, pW c]
  | .skip a k => [pW a, pO k]
  | .over k => [pO k]
  | .on => []
  | .count => []
  | .ask w k => [pW w, pO k]
  | .deed w a => [pW w, pW a]
  | .done w a => [pW w, pW a]
def outW (p : Part) : List Str := if p.1 = wLeaves then bang :: p.2.2 else p.2.2
theorem row_pt (r : Row) : r.u = .tup (.str (kw r) :: (pt r).map fun p => p.2.1) := by cases r <;> rfl
theorem look_pt (r : Row) : lookS (kw r) = some ((pt r).map fun p => p.1) := by
  cases r with
  | set x n => exact (by decide +kernel : lookS (Str.ofString "set") = some [wWord, wNumber])
  | same x a => exact (by decide +kernel : lookS (Str.ofString "same") = some [wWord, wWord])
  | sum x a b => exact (by decide +kernel : lookS (Str.ofString "sum") = some [wWord, wWord, wWord])
  | less x a b => exact (by decide +kernel : lookS (Str.ofString "less") = some [wWord, wWord, wWord])
  | hold x n as => exact (by decide +kernel : lookS (Str.ofString "hold") = some [wWord, wWord, wArgs])
  | call x f as vs => exact (by decide +kernel : lookS (Str.ofString "call") = some [wWord, wWord, wArgs, wLeaves])
  | last f as vs => exact (by decide +kernel : lookS (Str.ofString "last") = some [wWord, wArgs, wLeaves])
  | give a => exact (by decide +kernel : lookS (Str.ofString "give") = some [wWord])
  | keep c a => exact (by decide +kernel : lookS (Str.ofString "keep") = some [wWord, wWord])
  | kept x c => exact (by decide +kernel : lookS (Str.ofString "kept") = some [wWord, wWord])
  | skip a k => exact (by decide +kernel : lookS (Str.ofString "skip") = some [wWord, wOver])
  | over k => exact (by decide +kernel : lookS (Str.ofString "over") = some [wOver])
  | on  => exact (by decide +kernel : lookS (Str.ofString "on") = some [])
  | count  => exact (by decide +kernel : lookS (Str.ofString "count") = some [])
  | ask w k => exact (by decide +kernel : lookS (Str.ofString "ask") = some [wWord, wOver])
  | deed w a => exact (by decide +kernel : lookS (Str.ofString "deed") = some [wWord, wWord])
  | done w a => exact (by decide +kernel : lookS (Str.ofString "done") = some [wWord, wWord])
theorem nWL : wWord ≠ wLeaves := by decide +kernel
theorem nNL : wNumber ≠ wLeaves := by decide +kernel
theorem nOL : wOver ≠ wLeaves := by decide +kernel
theorem nAL : wArgs ≠ wLeaves := by decide +kernel
theorem out_W (a : Str) : outW (pW a) = [a] := if_neg nWL
theorem out_N (a : Int) : outW (pN a) = [num a] := if_neg nNL
theorem out_O (a : Int) : outW (pO a) = [num a] := if_neg nOL
theorem out_A (a : List Str) : outW (pA a) = a := if_neg nAL
theorem out_L (a : List Str) : outW (pL a) = bang :: a := if_pos rfl
theorem wd_pt (r : Row) : wd r = kw r :: (pt r).flatMap outW := by
  cases r <;> simp [wd, kw, pt, out_W, out_N, out_O, out_A, out_L]
/-- a part as it can be shown -/
def POkP (p : Part) : Prop := PW p.2.1 p.2.2 ∧ (p.1 = wWord ∧ (∃ a, p.2.1 = .str a) ∨ (p.1 = wNumber ∨ p.1 = wOver) ∧ (∃ i, p.2.1 = .int i) ∨ (p.1 = wArgs ∨ p.1 = wLeaves) ∧ ∃ ws, p.2.1 = tS ws ∧ p.2.2 = ws)
theorem okW (a : Str) : POkP (pW a) := ⟨.str a, .inl ⟨rfl, a, rfl⟩⟩
theorem okNn {i : Int} (h : -1000000000000000000 ≤ i ∧ i ≤ 1000000000000000000) : POkP (pN i) := ⟨.int i h, .inr (.inl ⟨.inl rfl, i, rfl⟩)⟩
theorem okO {i : Int} (h : -1000000000000000000 ≤ i ∧ i ≤ 1000000000000000000) : POkP (pO i) := ⟨.int i h, .inr (.inl ⟨.inr rfl, i, rfl⟩)⟩
theorem okA {ws : List Str} (h : ws.length ≤ 100) : POkP (pA ws) := ⟨.tup ws h, .inr (.inr ⟨.inl rfl, ws, rfl, rfl⟩)⟩
theorem okL {ws : List Str} (h : ws.length ≤ 100) : POkP (pL ws) := ⟨.tup ws h, .inr (.inr ⟨.inr rfl, ws, rfl, rfl⟩)⟩
theorem mem2 {P : Part → Prop} {a b : Part} (ha : P a) (hb : P b) : ∀ p ∈ [a, b], P p := fun p hp => by
  simp only [List.mem_cons, List.not_mem_nil, or_false] at hp
  rcases hp with rfl | rfl
  · exact ha
  · exact hb
theorem mem1 {P : Part → Prop} {a : Part} (ha : P a) : ∀ p ∈ [a], P p := fun p hp => by rw [List.mem_singleton] at hp; rw [hp]; exact ha
theorem memC {P : Part → Prop} {a : Part} {l : List Part} (ha : P a) (hl : ∀ p ∈ l, P p) : ∀ p ∈ a :: l, P p := fun p hp => by
  rcases List.mem_cons.mp hp with rfl | hp
  · exact ha
  · exact hl p hp
theorem fit_parts {r : Row} (h : Fit r) : ∀ p ∈ pt r, POkP p := by
  obtain ⟨h1, h2⟩ := h
  cases r with
  | set x n =>
    simp only [Row.ok, Bool.and_eq_true] at h1
    exact mem2 (okW _) (okNn (okN_le h1.2))
  | hold x n as =>
    simp only [Row.ok, Bool.and_eq_true] at h1
    exact memC (okW _) (mem2 (okW _) (okA (Nat.le_trans (args_len h1.2) (by decide))))
  | call x f as vs =>
    simp only [Row.ok, Bool.and_eq_true] at h1
    exact memC (okW _) (memC (okW _) (mem2 (okA (Nat.le_trans (args_len h1.1.2) (by decide))) (okL (Nat.le_trans (leaves_len h1.2) (by decide)))))
  | last f as vs =>
    simp only [Row.ok, Bool.and_eq_true] at h1
    exact memC (okW _) (mem2 (okA (Nat.le_trans (args_len h1.1.2) (by decide))) (okL (Nat.le_trans (leaves_len h1.2) (by decide))))
  | skip a k =>
    simp only [Row.ok, Bool.and_eq_true, decide_eq_true_eq] at h1
    have h2 : k ≤ 60 := h2
    exact mem2 (okW _) (okO ⟨by omega, by omega⟩)
  | over k =>
    simp only [Row.ok, decide_eq_true_eq] at h1
    have h2 : k ≤ 60 := h2
    exact mem1 (okO ⟨by omega, by omega⟩)
  | ask w k =>
    simp only [Row.ok, Bool.and_eq_true, decide_eq_true_eq] at h1
    have h2 : k ≤ 60 := h2
    exact mem2 (okW _) (okO ⟨by omega, by omega⟩)
  | on => exact fun p hp => nomatch hp
  | count => exact fun p hp => nomatch hp
  | give a => exact mem1 (okW _)
  | sum x a b => exact memC (okW _) (mem2 (okW _) (okW _))
  | less x a b => exact memC (okW _) (mem2 (okW _) (okW _))
  | same x a => exact mem2 (okW _) (okW _)
  | keep x a => exact mem2 (okW _) (okW _)
  | kept x a => exact mem2 (okW _) (okW _)
  | deed x a => exact mem2 (okW _) (okW _)
  | done x a => exact mem2 (okW _) (okW _)
/-- the law tells leaves by their place -/
theorem place_pt (r : Row) : ∀ (k : Nat) (p : Part), (pt r)[k]? = some p → (((kw r = Str.ofString "call" ∨ kw r = Str.ofString "last") ∧ k + 2 = (pt r).length + 1) ↔ p.1 = wLeaves) := by
  have nc : ∀ q ∈ [Str.ofString "set", Str.ofString "same", Str.ofString "sum", Str.ofString "less", Str.ofString "hold", Str.ofString "give", Str.ofString "keep", Str.ofString "kept", Str.ofString "skip", Str.ofString "over", Str.ofString "on", Str.ofString "count", Str.ofString "ask", Str.ofString "deed", Str.ofString "done"], ¬ (q = Str.ofString "call" ∨ q = Str.ofString "last") := by decide +kernel
  have gen : (∀ p ∈ pt r, p.1 ≠ wLeaves) → ¬ (kw r = Str.ofString "call" ∨ kw r = Str.ofString "last") → ∀ (k : Nat) (p : Part), (pt r)[k]? = some p → (((kw r = Str.ofString "call" ∨ kw r = Str.ofString "last") ∧ k + 2 = (pt r).length + 1) ↔ p.1 = wLeaves) := fun h1 h2 k p hp => ⟨fun z => (h2 z.1).elim, fun z => (h1 p (List.mem_of_getElem? hp) z).elim⟩
  cases r with
  | call x f as vs =>
    intro k p hp
    match k, hp with
    | 0, hp => cases hp; exact ⟨fun z => by have := z.2; simp [pt] at this, fun z => absurd z nWL⟩
    | 1, hp => cases hp; exact ⟨fun z => by have := z.2; simp [pt] at this, fun z => absurd z nWL⟩
    | 2, hp => cases hp; exact ⟨fun z => by have := z.2; simp [pt] at this, fun z => absurd z nAL⟩
    | 3, hp => cases hp; exact ⟨fun _ => rfl, fun _ => ⟨.inl rfl, rfl⟩⟩
    | k + 4, hp => simp [pt] at hp
  | last f as vs =>
    intro k p hp
    match k, hp with
    | 0, hp => cases hp; exact ⟨fun z => by have := z.2; simp [pt] at this, fun z => absurd z nWL⟩
    | 1, hp => cases hp; exact ⟨fun z => by have := z.2; simp [pt] at this, fun z => absurd z nAL⟩
    | 2, hp => cases hp; exact ⟨fun _ => rfl, fun _ => ⟨.inr rfl, rfl⟩⟩
    | k + 3, hp => simp [pt] at hp
  | set x n => exact gen (mem2 nWL nNL) (nc _ (by simp [kw]))
  | same x a => exact gen (mem2 nWL nWL) (nc _ (by simp [kw]))
  | sum x a b => exact gen (memC nWL (mem2 nWL nWL)) (nc _ (by simp [kw]))
  | less x a b => exact gen (memC nWL (mem2 nWL nWL)) (nc _ (by simp [kw]))
  | hold x n as => exact gen (memC nWL (mem2 nWL nAL)) (nc _ (by simp [kw]))
  | give a => exact gen (mem1 nWL) (nc _ (by simp [kw]))
  | keep c a => exact gen (mem2 nWL nWL) (nc _ (by simp [kw]))
  | kept x c => exact gen (mem2 nWL nWL) (nc _ (by simp [kw]))
  | skip a k => exact gen (mem2 nWL nOL) (nc _ (by simp [kw]))
  | over k => exact gen (mem1 nOL) (nc _ (by simp [kw]))
  | on => exact gen (fun p hp => nomatch hp) (nc _ (by simp [kw]))
  | count => exact gen (fun p hp => nomatch hp) (nc _ (by simp [kw]))
  | ask w k => exact gen (mem2 nWL nOL) (nc _ (by simp [kw]))
  | deed w a => exact gen (mem2 nWL nWL) (nc _ (by simp [kw]))
  | done w a => exact gen (mem2 nWL nWL) (nc _ (by simp [kw]))
end TX
/-! YK: texts made, whole -/
namespace TX
open PySem L2 D C
theorem tup_cut (a : U) (l : List U) : sl3 (.tup (a :: l)) (some 1) none = some (.tup l) := by rw [D.sl_tup, cut_tail]
theorem row_join {r : Row} (h : Fit r) : join2 (Str.ofString " ") (lS (wd r)) = some (.str (rowT r)) := by
  obtain ⟨h1, h2⟩ := fit_words h
  have e : (Str.ofString " ").length = 1 := by decide +kernel
  have hz : (wd r).length * 20 + (wd r).length * (Str.ofString " ").length ≤ 16777216 := by rw [e]; omega
  exact join_ev (Str.ofString " ") (wd r) 20 h1 hz
theorem pt_len (r : Row) : (pt r).length ≤ 4 := by cases r <;> simp [pt]
theorem outs_len {r : Row} (h : Fit r) (k : Nat) : (kw r :: ((pt r).take k).flatMap outW).length ≤ 20 := by
  have h2 := (fit_words h).2
  rw [wd_pt] at h2
  have sub : (((pt r).take k).flatMap outW).length ≤ ((pt r).flatMap outW).length := by
    conv => rhs; rw [← List.take_append_drop k (pt r)]
    rw [List.flatMap_append, List.length_append]
    omega
  rw [List.length_cons] at h2 ⊢
  omega
set_option maxHeartbeats 2000000 in
theorem l_row_text_ev {r : Row} (h : Fit r) (st : Store) : f_l_row_text [r.u] st = .ok (.str (rowT r)) st := by
  have jn := row_join h
  have hp := fit_parts h
  have ix0 : ix2 r.u (.int 0) = some (.str (kw r)) := by rw [row_pt]; simp
  have ln : lenN [r.u] = some (.int (((pt r).length + 1 : Nat) : Int)) := by rw [row_pt]; simp
  have sl : sl3 r.u (some 1) none = some (.tup ((pt r).map fun p => p.2.1)) := by rw [row_pt]; exact tup_cut _ _
  obtain ⟨env', he, s2, s3, rfl⟩ := G2.for_enum (i := 2) (j := 3) (b := t1_l_row_text) (st := st) ((pt r).map fun p => p.2.1) (fun k env => ∃ s2 s3, env = [.val r.u, .own ((kw r :: ((pt r).take k).flatMap outW).map U.str), s2, s3]) (env := [.val r.u, .own [.str (kw r)], .un, .un]) ⟨_, _, rfl⟩ (fun k u env hk hI => by
    obtain ⟨s2, s3, rfl⟩ := hI
    rw [List.getElem?_map, Option.map_eq_some_iff] at hk
    obtain ⟨p, hpk, rfl⟩ := hk
    obtain ⟨pw, _⟩ := hp p (List.mem_of_getElem? hpk)
    have hlt := (List.getElem?_eq_some_iff.mp hpk).1
    have e := law_turn r.u (kw r) ((pt r).length + 1) k ix0 ln (by omega) (kw r :: ((pt r).take k).flatMap outW) (by have := outs_len h k; omega) p.2.1 p.2.2 pw st
    have ow : (if (kw r = Str.ofString "call" ∨ kw r = Str.ofString "last") ∧ k + 2 = (pt r).length + 1 then bang :: p.2.2 else p.2.2) = outW p := by
      unfold outW
      have pl := place_pt r k p hpk
      by_cases z : p.1 = wLeaves
      · rw [if_pos z, if_pos (pl.mpr z)]
      · rw [if_neg z, if_neg fun y => z (pl.mp y)]
    rw [ow] at e
    refine ⟨_, e, .val (.int (k : Int)), .val p.2.1, ?_⟩
    rw [List.take_add_one, hpk]
    simp [List.flatMap_append])
  rw [List.length_map, List.take_of_length_le (Nat.le_refl _), ← wd_pt] at he
  have en : enumerateN [.tup ((pt r).map fun p => p.2.1)] = some (numU ((pt r).map fun p => p.2.1)) := rfl
  have jn' : join2 (Str.ofString " ") (.lst ((wd r).map U.str)) = some (.str (rowT r)) := jn
  unfold f_l_row_text b_l_row_text
  generalize (pt r).map (fun p => p.2.1) = PP at *
  generalize (wd r).map U.str = WW at *
  generalize r.u = RU at *
  simp [ix0, sl, en, he, frzE, frz1, jn']
theorem nWA : wWord ≠ wArgs := by decide +kernel
theorem nNA : wNumber ≠ wArgs := by decide +kernel
theorem nOA : wOver ≠ wArgs := by decide +kernel
theorem part_ev {p : Part} (h : POkP p) (st : Store) : f_part_shown [.str p.1, p.2.1] st = .ok (lS (outW p)) st := by
  obtain ⟨s, u, ws⟩ := p
  obtain ⟨pw, h⟩ := h
  simp only at pw h
  unfold f_part_shown b_part_shown outW
  rcases h with ⟨h1, a, h2⟩ | ⟨h1, i, h2⟩ | ⟨h1, vs, h2, h3⟩
  · subst h1; subst h2
    cases pw
    have q1 : ¬ wWord = wLeaves := nWL
    have q2 : ¬ wWord = wArgs := nWA
    generalize wWord = w1 at *
    simp [q1, q2, strN]
  · subst h2
    cases pw with
    | int _ hb =>
    have q1 : ¬ s = wLeaves := by rcases h1 with rfl | rfl; exact nNL; exact nOL
    have q2 : ¬ s = wArgs := by rcases h1 with rfl | rfl; exact nNA; exact nOA
    simp [q1, q2, num_ev hb]
  · subst h2; subst h3
    have hl : ws.length ≤ 100 := by
      generalize hT : tS ws = T at pw
      cases pw with
      | str a => cases hT
      | int i h => cases hT
      | tup ws' h => exact h
    have hz : 1 + ws.length ≤ 16777216 := by omega
    have hz2 : ws.length + 1 ≤ 16777216 := by omega
    have hz3 : ws.length ≤ 16777215 := by omega
    rcases h1 with rfl | rfl
    · have q1 : ¬ wArgs = wLeaves := nAL
      generalize wLeaves = w1 at *
      simp [q1, tS]
    · simp [tS, hz, hz2, hz3, bang]
theorem prog_turn (R : U) (acc : List Str) (ha : acc.length ≤ 100) (p : Part) (h : POkP p) (hl : (outW p).length ≤ 200) (st : Store) :
    t1_shown_row [.val R, .own (acc.map U.str), .val (.str p.1), .val p.2.1] st = .nx [.val R, .own ((acc ++ outW p).map U.str), .val (.str p.1), .val p.2.1] st := by
  have e := part_ev h st
  have hz : acc.length + (outW p).length ≤ 16777216 := by omega
  unfold t1_shown_row
  generalize outW p = W at *
  generalize p.1 = P1 at *
  generalize p.2.1 = P2 at *
  simp [e, seqU, hz]
set_option maxHeartbeats 2000000 in
theorem shown_row_ev {r : Row} (h : Fit r) (st : Store) : f_shown_row [r.u] st = .ok (.str (rowT r)) st := by
  have jn := row_join h
  have hp := fit_parts h
  have ix0 : ix2 r.u (.int 0) = some (.str (kw r)) := by rw [row_pt]; simp
  have sl : sl3 r.u (some 1) none = some (.tup ((pt r).map fun p => p.2.1)) := by rw [row_pt]; exact tup_cut _ _
  have tb : tabGet tab_PARTS (.str (kw r)) = some (tS ((pt r).map fun p => p.1)) := by
    show tabAt tab_PARTS (kw r) = _
    rw [tab_at, look_pt]; rfl
  have zp : zipN [tS ((pt r).map fun p => p.1), .tup ((pt r).map fun p => p.2.1)] = some ((pt r).map fun p => U.tup [.str p.1, p.2.1]) := by
    show some (zipU _ _) = _
    rw [zipU_txt]
    congr 1
    have : ∀ l : List Part, ((l.map fun p => p.1).zip (l.map fun p => p.2.1)).map (fun p => U.tup [.str p.1, p.2]) = l.map fun p => U.tup [.str p.1, p.2.1] := by
      intro l
      induction l with
      | nil => rfl
      | cons x l ih => simp only [List.map_cons, List.zip_cons_cons, ih]
    exact this _
  obtain ⟨env', he, done, s2, s3, hd, rfl⟩ := for_lst (t := tgT [2, 3]) (b := t1_shown_row) (st := st) (f := fun p : Part => U.tup [.str p.1, p.2.1]) (fun rest env => ∃ (done : List Part) (s2 s3 : Sl), pt r = done ++ rest ∧ env = [.val r.u, .own ((kw r :: done.flatMap outW).map U.str), s2, s3]) (pt r) [.val r.u, .own [.str (kw r)], .un, .un] ⟨[], _, _, rfl, rfl⟩ (fun p rest env hpm hI => by
    obtain ⟨done, s2, s3, hd, rfl⟩ := hI
    have hk : done = (pt r).take done.length := by rw [hd, List.take_left]
    have hlen := outs_len h done.length
    rw [← hk] at hlen
    have hlen2 := outs_len h (done.length + 1)
    have hk2 : (pt r).take (done.length + 1) = done ++ [p] := by
      rw [hd, List.take_append, List.take_of_length_le (by omega), show done.length + 1 - done.length = 1 by omega]
      rfl
    rw [hk2, List.flatMap_append, List.length_cons, List.length_append] at hlen2
    have ho : (outW p).length ≤ 200 := by simp at hlen2; omega
    have e := prog_turn r.u (kw r :: done.flatMap outW) (by omega) p (hp p hpm) ho st
    exact ⟨[(2, .str p.1), (3, p.2.1)], _, tgT2_ap _ _ _ _, .inl e, done ++ [p], .val (.str p.1), .val p.2.1, by rw [hd, List.append_assoc]; rfl, by simp [List.flatMap_append]⟩)
  rw [List.append_nil] at hd
  rw [← hd, ← wd_pt] at he
  have jn' : join2 (Str.ofString " ") (.lst ((wd r).map U.str)) = some (.str (rowT r)) := jn
  unfold f_shown_row b_shown_row
  generalize (pt r).map (fun p => U.tup [.str p.1, p.2.1]) = ZZ at *
  generalize tS ((pt r).map fun p => p.1) = SS at *
  generalize (pt r).map (fun p => p.2.1) = PP at *
  generalize (wd r).map U.str = WW at *
  generalize r.u = RU at *
  simp [ix0, sl, tb, zp, he, frzE, frz1, jn']
end TX
/-! YL: texts of pieces -/
namespace TX
open PySem L2 D C
theorem rows_fit {p : Piece} (h : p.ok = true) : ∀ r ∈ p.rows, Fit r := fun r hr => by
  have hp := (pok_iff p).mp h
  obtain ⟨k, hk, rfl⟩ := List.getElem_of_mem hr
  have g := hp.goes k hk
  have l := hp.len2
  exact ⟨hp.rows _ (List.getElem_mem hk), by omega⟩
theorem rowT_len {r : Row} (h : Fit r) : (rowT r).length ≤ 1000 := by
  obtain ⟨h1, h2⟩ := fit_words h
  have := join_len sp (wd r) 20 h1
  have e : sp.length = 1 := by decide +kernel
  unfold rowT
  rw [e] at this
  omega
theorem head_words {p : Piece} (h : p.ok = true) : (∀ w ∈ headW p, w.length ≤ 20) ∧ (headW p).length ≤ 20 := by
  have hp := (pok_iff p).mp h
  have l1 := args_len hp.params
  have l2 := leaves_len hp.own
  refine ⟨fun w hw => ?_, by unfold headW; simp; omega⟩
  unfold headW at hw
  simp only [List.cons_append, List.nil_append, List.mem_cons, List.mem_append, List.not_mem_nil, or_false, List.append_assoc] at hw
  rcases hw with rfl | rfl | hw | rfl | hw
  · exact k20 (by simp)
  · exact w20 hp.name
  · exact args20 hp.params w hw
  · exact k20 (by simp)
  · exact leaves20 hp.own w hw
theorem headT_len {p : Piece} (h : p.ok = true) : (Txt.join sp (headW p)).length ≤ 1000 := by
  obtain ⟨h1, h2⟩ := head_words h
  have := join_len sp (headW p) 20 h1
  have e : sp.length = 1 := by decide +kernel
  rw [e] at this
  omega
theorem head_join {p : Piece} (h : p.ok = true) : join2 (Str.ofString " ") (lS (headW p)) = some (.str (Txt.join sp (headW p))) := by
  obtain ⟨h1, h2⟩ := head_words h
  have e : (Str.ofString " ").length = 1 := by decide +kernel
  exact join_ev (Str.ofString " ") (headW p) 20 h1 (by rw [e]; omega)
theorem lines_len {p : Piece} (h : p.ok = true) : (∀ w ∈ Txt.join sp (headW p) :: p.rows.map rowT, w.length ≤ 1000) ∧ (Txt.join sp (headW p) :: p.rows.map rowT).length ≤ 61 := by
  have hp := (pok_iff p).mp h
  refine ⟨fun w hw => ?_, by rw [List.length_cons, List.length_map]; have := hp.len2; omega⟩
  rcases List.mem_cons.mp hw with rfl | hw
  · exact headT_len h
  · obtain ⟨r, hr, rfl⟩ := List.mem_map.mp hw
    exact rowT_len (rows_fit h r hr)
theorem nl_len : (Str.ofString "\n").length = 1 := by decide +kernel
theorem lines_join {p : Piece} (h : p.ok = true) : join2 (Str.ofString "\n") (lS (Txt.join sp (headW p) :: p.rows.map rowT)) = some (.str (pieceT p)) := by
  obtain ⟨h1, h2⟩ := lines_len h
  exact join_ev (Str.ofString "\n") _ 1000 h1 (by rw [nl_len]; omega)
theorem pieceT_len {p : Piece} (h : p.ok = true) : (pieceT p).length ≤ 70000 := by
  obtain ⟨h1, h2⟩ := lines_len h
  have := join_len nl _ 1000 h1
  have e : nl.length = 1 := nl_len
  unfold pieceT
  rw [e] at this
  omega
theorem book_join (b : List Piece) (h : ∀ p ∈ b, p.ok = true) (hl : b.length ≤ 100) : join2 (Str.ofString "\n") (lS (b.map pieceT)) = some (.str (bookT b)) :=
  join_ev (Str.ofString "\n") _ 70000 (fun w hw => by
    obtain ⟨p, hp, rfl⟩ := List.mem_map.mp hw
    exact pieceT_len (h p hp)) (by rw [nl_len, List.length_map]; omega)
theorem bookT_len (b : List Piece) (h : ∀ p ∈ b, p.ok = true) (hl : b.length ≤ 100) : (bookT b).length ≤ 8000000 := by
  have := join_len nl (b.map pieceT) 70000 (fun w hw => by
    obtain ⟨p, hp, rfl⟩ := List.mem_map.mp hw
    exact pieceT_len (h p hp))
  have e : nl.length = 1 := nl_len
  unfold bookT
  rw [e, List.length_map] at this
  omega
theorem head_add (nm : Str) (ps ow : List Str) (h : ps.length ≤ 100) (h2 : ow.length ≤ 100) :
    add2 (.lst [.str (Str.ofString "piece"), .str nm]) (.lst (ps.map U.str)) = some (lS ([Str.ofString "piece", nm] ++ ps)) ∧
    add2 (lS ([Str.ofString "piece", nm] ++ ps)) (.lst [.str (Str.ofString "!")]) = some (lS ([Str.ofString "piece", nm] ++ ps ++ [bang])) ∧
    add2 (lS ([Str.ofString "piece", nm] ++ ps ++ [bang])) (.lst (ow.map U.str)) = some (lS ([Str.ofString "piece", nm] ++ ps ++ [bang] ++ ow)) := by
  refine ⟨?_, ?_, ?_⟩
  · rw [add_lsts, if_pos (by simp; omega)]; simp
  · show add2 (.lst (([Str.ofString "piece", nm] ++ ps).map U.str)) _ = _
    rw [add_lsts, if_pos (by simp; omega)]; simp [bang]
  · show add2 (.lst (([Str.ofString "piece", nm] ++ ps ++ [bang]).map U.str)) _ = _
    rw [add_lsts, if_pos (by simp; omega)]; simp
set_option maxHeartbeats 2000000 in
theorem l_piece_text_ev {p : Piece} (h : p.ok = true) (st : Store) : f_l_piece_text [p.u] st = .ok (.str (pieceT p)) st := by
  have hp := (pok_iff p).mp h
  have tg : tgA [2, 3, 4, 5] p.u = some [(2, .str p.name), (3, tS p.own), (4, tS p.params), (5, .tup (p.rows.map Row.u))] := rfl
  obtain ⟨a1, a2, a3⟩ := head_add p.name p.params p.own (Nat.le_trans (args_len hp.params) (by decide)) (Nat.le_trans (leaves_len hp.own) (by decide))
  have hj : join2 (Str.ofString " ") (lS ([Str.ofString "piece", p.name] ++ p.params ++ [bang] ++ p.own)) = some (.str (Txt.join sp (headW p))) := head_join h
  have l1 : lstL [tS p.params] = some (p.params.map U.str) := rfl
  have l2 : lstL [tS p.own] = some (p.own.map U.str) := rfl
  have it : items (.tup (p.rows.map Row.u)) = some (p.rows.map Row.u) := rfl
  have rl : p.rows.length ≤ 16777216 := by have := hp.len2; omega
  have rl' : (p.rows.map Row.u).length ≤ 16777216 := by rw [List.length_map]; exact rl
  have cm : ∀ a0 a1 a2 a3 a4 a5 : Sl, compL (tgN 6) yesT (appU f_l_row_text (acons (var 6) anil)) (p.rows.map Row.u) [a0, a1, a2, a3, a4, a5, .un] st = .ok ((p.rows.map rowT).map U.str) st := fun a0 a1 a2 a3 a4 a5 => by
    rw [List.map_map]
    exact comp_allM p.rows fun r hr => ⟨_, rfl, by
      have := l_row_text_ev (rows_fit h r hr) st
      generalize r.u = RU at *
      simp [this]⟩
  have ad : add2 (.lst [.str (Txt.join sp (headW p))]) (.lst ((p.rows.map rowT).map U.str)) = some (lS (Txt.join sp (headW p) :: p.rows.map rowT)) := by
    rw [add_lsts, if_pos (by simp; have := hp.len2; omega)]; simp
  have lj := lines_join h
  generalize (p.rows.map rowT).map U.str = RT at *
  generalize lS (Txt.join sp (headW p) :: p.rows.map rowT) = LN at *
  generalize lS ([Str.ofString "piece", p.name] ++ p.params ++ [bang] ++ p.own) = H3 at *
  generalize lS ([Str.ofString "piece", p.name] ++ p.params ++ [bang]) = H2 at *
  generalize lS ([Str.ofString "piece", p.name] ++ p.params) = H1 at *
  generalize hRU : p.rows.map Row.u = RU at *
  generalize U.tup RU = RT2 at *
  generalize p.params.map U.str = PS at *
  generalize p.own.map U.str = OS at *
  generalize tS p.params = PT at *
  generalize tS p.own = OT at *
  generalize p.u = PU at *
  unfold f_l_piece_text b_l_piece_text
  simp [sUnp, tg, l1, l2, a1, a2, a3, hj, it, rl', wipeE, cm, ad, lj, -add_lsts]
set_option maxHeartbeats 2000000 in
theorem piece_shown_ev {p : Piece} (h : p.ok = true) (st : Store) : f_piece_shown [p.u] st = .ok (.str (pieceT p)) st := by
  have hp := (pok_iff p).mp h
  have i0 : ix2 p.u (.int 0) = some (.str p.name) := rfl
  have i1 : ix2 p.u (.int 1) = some (tS p.own) := rfl
  have i2 : ix2 p.u (.int 2) = some (tS p.params) := rfl
  have i3 : ix2 p.u (.int 3) = some (.tup (p.rows.map Row.u)) := rfl
  obtain ⟨a1, a2, a3⟩ := head_add p.name p.params p.own (Nat.le_trans (args_len hp.params) (by decide)) (Nat.le_trans (leaves_len hp.own) (by decide))
  have hj : join2 (Str.ofString " ") (lS ([Str.ofString "piece", p.name] ++ p.params ++ [bang] ++ p.own)) = some (.str (Txt.join sp (headW p))) := head_join h
  have l1 : lstL [tS p.params] = some (p.params.map U.str) := rfl
  have l2 : lstL [tS p.own] = some (p.own.map U.str) := rfl
  have it : items (.tup (p.rows.map Row.u)) = some (p.rows.map Row.u) := rfl
  have rl' : (p.rows.map Row.u).length ≤ 16777216 := by rw [List.length_map]; have := hp.len2; omega
  have cm : ∀ a0 a1 : Sl, compL (tgN 2) yesT (appU f_shown_row (acons (var 2) anil)) (p.rows.map Row.u) [a0, a1, .un] st = .ok ((p.rows.map rowT).map U.str) st := fun a0 a1 => by
    rw [List.map_map]
    exact comp_allM p.rows fun r hr => ⟨_, rfl, by
      have := shown_row_ev (rows_fit h r hr) st
      generalize r.u = RU at *
      simp [this]⟩
  have ad : add2 (.lst [.str (Txt.join sp (headW p))]) (.lst ((p.rows.map rowT).map U.str)) = some (lS (Txt.join sp (headW p) :: p.rows.map rowT)) := by
    rw [add_lsts, if_pos (by simp; have := hp.len2; omega)]; simp
  have lj := lines_join h
  generalize (p.rows.map rowT).map U.str = RT at *
  generalize lS (Txt.join sp (headW p) :: p.rows.map rowT) = LN at *
  generalize lS ([Str.ofString "piece", p.name] ++ p.params ++ [bang] ++ p.own) = H3 at *
  generalize lS ([Str.ofString "piece", p.name] ++ p.params ++ [bang]) = H2 at *
  generalize lS ([Str.ofString "piece", p.name] ++ p.params) = H1 at *
  generalize hRU : p.rows.map Row.u = RU at *
  generalize U.tup RU = RT2 at *
  generalize p.params.map U.str = PS at *
  generalize p.own.map U.str = OS at *
  generalize tS p.params = PT at *
  generalize tS p.own = OT at *
  generalize p.u = PU at *
  unfold f_piece_shown b_piece_shown
  simp [i0, i1, i2, i3, l1, l2, a1, a2, a3, hj, it, rl', wipeE, cm, ad, lj, -add_lsts]
end TX
namespace T_allcallers_k10_shown
open PySem L2 D
def topS (i : Nat) : Stmt := PySem.Challenge.pw_allcallers_k10_shown.main.body.getD i (.Pass ⟨0, 0, 0, 0⟩)
abbrev s_l_fitted : Stmt := topS 46
abbrev n_l_fitted : List Str := [Str.ofString "_law_rows", Str.ofString "_law_found", Str.ofString "_law_at", Str.ofString "_law_row", Str.ofString "_law_behind"]
theorem sc_l_fitted : FnScope n_l_fitted [Str.ofString "_law_rows"] (defScope s_l_fitted) := ⟨rfl, rfl, rfl, by decide +kernel, rfl, by decide +kernel, by decide +kernel⟩
abbrev s_l_hand : Stmt := topS 36
abbrev n_l_hand : List Str := [Str.ofString "_law_script", Str.ofString "_law_k", Str.ofString "_law_cell", Str.ofString "_law_seed"]
theorem sc_l_hand : FnScope n_l_hand [Str.ofString "_law_script", Str.ofString "_law_k"] (defScope s_l_hand) := ⟨rfl, rfl, rfl, by decide +kernel, rfl, by decide +kernel, by decide +kernel⟩
abbrev s_l_draw : Stmt := topS 37
abbrev n_l_draw : List Str := [Str.ofString "_law_hand_here", Str.ofString "_law_many", Str.ofString "_law_found"]
theorem sc_l_draw : FnScope n_l_draw [Str.ofString "_law_hand_here", Str.ofString "_law_many"] (defScope s_l_draw) := ⟨rfl, rfl, rfl, by decide +kernel, rfl, by decide +kernel, by decide +kernel⟩
abbrev s_l_some : Stmt := topS 39
abbrev n_l_some : List Str := [Str.ofString "_law_hand_here", Str.ofString "_law_words_here", Str.ofString "_law_many", Str.ofString "_law_word"]
theorem sc_l_some : FnScope n_l_some [Str.ofString "_law_hand_here", Str.ofString "_law_words_here", Str.ofString "_law_many"] (defScope s_l_some) := ⟨rfl, rfl, rfl, by decide +kernel, rfl, by decide +kernel, by decide +kernel⟩
abbrev s_l_words : Stmt := topS 38
abbrev n_l_words : List Str := [Str.ofString "_law_hand_here", Str.ofString "_law_many", Str.ofString "_law_letters", Str.ofString "_law_first", Str.ofString "_law_tail", Str.ofString "_law_word", Str.ofString "_law_k", Str.ofString "_law_j"]
theorem sc_l_words : FnScope n_l_words [Str.ofString "_law_hand_here", Str.ofString "_law_many"] (defScope s_l_words) := ⟨rfl, rfl, rfl, by decide +kernel, rfl, by decide +kernel, by decide +kernel⟩
abbrev s_l_heads : Stmt := topS 40
abbrev n_l_heads : List Str := [Str.ofString "_law_script", Str.ofString "_law_most", Str.ofString "_law_hand_here", Str.ofString "_law_many", Str.ofString "_law_names", Str.ofString "_law_roster", Str.ofString "_law_pool", Str.ofString "_law_heads_here", Str.ofString "_law_name", Str.ofString "_law_first", Str.ofString "_law_params"]
theorem sc_l_heads : FnScope n_l_heads [Str.ofString "_law_script", Str.ofString "_law_most"] (defScope s_l_heads) := ⟨rfl, rfl, rfl, by decide +kernel, rfl, by decide +kernel, by decide +kernel⟩
abbrev s_l_args : Stmt := topS 41
abbrev n_l_args : List Str := [Str.ofString "_law_hand_here", Str.ofString "_law_pool", Str.ofString "_law_many", Str.ofString "_law_k"]
theorem sc_l_args : FnScope n_l_args [Str.ofString "_law_hand_here", Str.ofString "_law_pool", Str.ofString "_law_many"] (defScope s_l_args) := ⟨rfl, rfl, rfl, by decide +kernel, rfl, by decide +kernel, by decide +kernel⟩
abbrev s_l_pair : Stmt := topS 42
abbrev n_l_pair : List Str := [Str.ofString "_law_hand_here", Str.ofString "_law_kit", Str.ofString "_law_bound", Str.ofString "_law_rest", Str.ofString "_law_word", Str.ofString "_law_hold", Str.ofString "_law_args_here", Str.ofString "_law_vouch", Str.ofString "_law_heads_here", Str.ofString "_law_roster", Str.ofString "_law_pool", Str.ofString "_law_name", Str.ofString "_law_own", Str.ofString "_law_params"]
theorem sc_l_pair : FnScope n_l_pair [Str.ofString "_law_hand_here", Str.ofString "_law_kit"] (defScope s_l_pair) := ⟨rfl, rfl, rfl, by decide +kernel, rfl, by decide +kernel, by decide +kernel⟩
abbrev s_l_number : Stmt := topS 43
abbrev n_l_number : List Str := [Str.ofString "_law_hand_here"]
theorem sc_l_number : FnScope n_l_number [Str.ofString "_law_hand_here"] (defScope s_l_number) := ⟨rfl, rfl, rfl, by decide +kernel, rfl, by decide +kernel, by decide +kernel⟩
abbrev s_l_plain : Stmt := topS 44
abbrev n_l_plain : List Str := [Str.ofString "_law_hand_here", Str.ofString "_law_kit", Str.ofString "_law_way", Str.ofString "_law_heads_here", Str.ofString "_law_roster", Str.ofString "_law_pool", Str.ofString "_law_one", Str.ofString "_law_two", Str.ofString "_law_three", Str.ofString "_law_name", Str.ofString "_law_word", Str.ofString "_law_over"]
theorem sc_l_plain : FnScope n_l_plain [Str.ofString "_law_hand_here", Str.ofString "_law_kit", Str.ofString "_law_way"] (defScope s_l_plain) := ⟨rfl, rfl, rfl, by decide +kernel, rfl, by decide +kernel, by decide +kernel⟩
abbrev s_l_more : Stmt := topS 45
abbrev n_l_more : List Str := [Str.ofString "_law_hand_here", Str.ofString "_law_kit", Str.ofString "_law_way", Str.ofString "_law_word", Str.ofString "_law_heads_here", Str.ofString "_law_roster", Str.ofString "_law_pool", Str.ofString "_law_one", Str.ofString "_law_two"]
theorem sc_l_more : FnScope n_l_more [Str.ofString "_law_hand_here", Str.ofString "_law_kit"] (defScope s_l_more) := ⟨rfl, rfl, rfl, by decide +kernel, rfl, by decide +kernel, by decide +kernel⟩
abbrev s_l_book : Stmt := topS 47
abbrev n_l_book : List Str := [Str.ofString "_law_script", Str.ofString "_law_most", Str.ofString "_law_first", Str.ofString "_law_kit", Str.ofString "_law_rows", Str.ofString "_law_k", Str.ofString "_law_book_here", Str.ofString "_law_more_here", Str.ofString "_law_there", Str.ofString "_law_head"]
theorem sc_l_book : FnScope n_l_book [Str.ofString "_law_script", Str.ofString "_law_most", Str.ofString "_law_first"] (defScope s_l_book) := ⟨rfl, rfl, rfl, by decide +kernel, rfl, by decide +kernel, by decide +kernel⟩
abbrev s_l_row_text : Stmt := topS 48
abbrev n_l_row_text : List Str := [Str.ofString "_law_row", Str.ofString "_law_words_here", Str.ofString "_law_place", Str.ofString "_law_part"]
theorem sc_l_row_text : FnScope n_l_row_text [Str.ofString "_law_row"] (defScope s_l_row_text) := ⟨rfl, rfl, rfl, by decide +kernel, rfl, by decide +kernel, by decide +kernel⟩
abbrev s_l_piece_text : Stmt := topS 49
abbrev n_l_piece_text : List Str := [Str.ofString "_law_piece", Str.ofString "_law_head", Str.ofString "_law_name", Str.ofString "_law_own", Str.ofString "_law_params", Str.ofString "_law_rows", Str.ofString "_law_row"]
theorem sc_l_piece_text : FnScope n_l_piece_text [Str.ofString "_law_piece"] (defScope s_l_piece_text) := ⟨rfl, rfl, rfl, by decide +kernel, rfl, by decide +kernel, by decide +kernel⟩
abbrev s_goes_over : Stmt := topS 18
abbrev n_goes_over : List Str := [Str.ofString "row"]
theorem sc_goes_over : FnScope n_goes_over [Str.ofString "row"] (defScope s_goes_over) := ⟨rfl, rfl, rfl, by decide +kernel, rfl, by decide +kernel, by decide +kernel⟩
abbrev s_is_word : Stmt := topS 7
abbrev n_is_word : List Str := [Str.ofString "thing", Str.ofString "sign"]
theorem sc_is_word : FnScope n_is_word [Str.ofString "thing"] (defScope s_is_word) := ⟨rfl, rfl, rfl, by decide +kernel, rfl, by decide +kernel, by decide +kernel⟩
abbrev s_are_args : Stmt := topS 15
abbrev n_are_args : List Str := [Str.ofString "thing", Str.ofString "word"]
theorem sc_are_args : FnScope n_are_args [Str.ofString "thing"] (defScope s_are_args) := ⟨rfl, rfl, rfl, by decide +kernel, rfl, by decide +kernel, by decide +kernel⟩
abbrev s_are_leaves : Stmt := topS 8
abbrev n_are_leaves : List Str := [Str.ofString "thing", Str.ofString "place", Str.ofString "word"]
theorem sc_are_leaves : FnScope n_are_leaves [Str.ofString "thing"] (defScope s_are_leaves) := ⟨rfl, rfl, rfl, by decide +kernel, rfl, by decide +kernel, by decide +kernel⟩
abbrev s_is_whole : Stmt := topS 13
abbrev n_is_whole : List Str := [Str.ofString "thing"]
theorem sc_is_whole : FnScope n_is_whole [Str.ofString "thing"] (defScope s_is_whole) := ⟨rfl, rfl, rfl, by decide +kernel, rfl, by decide +kernel, by decide +kernel⟩
abbrev s_is_number : Stmt := topS 14
abbrev n_is_number : List Str := [Str.ofString "thing"]
theorem sc_is_number : FnScope n_is_number [Str.ofString "thing"] (defScope s_is_number) := ⟨rfl, rfl, rfl, by decide +kernel, rfl, by decide +kernel, by decide +kernel⟩
abbrev s_is_part : Stmt := topS 16
abbrev n_is_part : List Str := [Str.ofString "sort", Str.ofString "thing"]
theorem sc_is_part : FnScope n_is_part [Str.ofString "sort", Str.ofString "thing"] (defScope s_is_part) := ⟨rfl, rfl, rfl, by decide +kernel, rfl, by decide +kernel, by decide +kernel⟩
abbrev s_is_row : Stmt := topS 17
abbrev n_is_row : List Str := [Str.ofString "thing", Str.ofString "sort", Str.ofString "part"]
theorem sc_is_row : FnScope n_is_row [Str.ofString "thing"] (defScope s_is_row) := ⟨rfl, rfl, rfl, by decide +kernel, rfl, by decide +kernel, by decide +kernel⟩
abbrev s_bad_row : Stmt := topS 25
abbrev n_bad_row : List Str := [Str.ofString "rows", Str.ofString "at", Str.ofString "row"]
theorem sc_bad_row : FnScope n_bad_row [Str.ofString "rows"] (defScope s_bad_row) := ⟨rfl, rfl, rfl, by decide +kernel, rfl, by decide +kernel, by decide +kernel⟩
abbrev s_is_head : Stmt := topS 24
abbrev n_is_head : List Str := [Str.ofString "thing", Str.ofString "name", Str.ofString "own", Str.ofString "params", Str.ofString "rows"]
theorem sc_is_head : FnScope n_is_head [Str.ofString "thing"] (defScope s_is_head) := ⟨rfl, rfl, rfl, by decide +kernel, rfl, by decide +kernel, by decide +kernel⟩
abbrev s_leaves_in : Stmt := topS 19
abbrev n_leaves_in : List Str := [Str.ofString "row"]
theorem sc_leaves_in : FnScope n_leaves_in [Str.ofString "row"] (defScope s_leaves_in) := ⟨rfl, rfl, rfl, by decide +kernel, rfl, by decide +kernel, by decide +kernel⟩
abbrev s_words_of : Stmt := topS 26
abbrev n_words_of : List Str := [Str.ofString "piece", Str.ofString "found", Str.ofString "row"]
theorem sc_words_of : FnScope n_words_of [Str.ofString "piece"] (defScope s_words_of) := ⟨rfl, rfl, rfl, by decide +kernel, rfl, by decide +kernel, by decide +kernel⟩
abbrev s_roster_in : Stmt := topS 27
abbrev n_roster_in : List Str := [Str.ofString "book", Str.ofString "found", Str.ofString "piece"]
theorem sc_roster_in : FnScope n_roster_in [Str.ofString "book"] (defScope s_roster_in) := ⟨rfl, rfl, rfl, by decide +kernel, rfl, by decide +kernel, by decide +kernel⟩
abbrev s_look_at_book : Stmt := topS 28
abbrev n_look_at_book : List Str := [Str.ofString "thing", Str.ofString "number", Str.ofString "piece", Str.ofString "row", Str.ofString "one"]
theorem sc_look_at_book : FnScope n_look_at_book [Str.ofString "thing"] (defScope s_look_at_book) := ⟨rfl, rfl, rfl, by decide +kernel, rfl, by decide +kernel, by decide +kernel⟩
abbrev s_part_shown : Stmt := topS 30
abbrev n_part_shown : List Str := [Str.ofString "sort", Str.ofString "part"]
theorem sc_part_shown : FnScope n_part_shown [Str.ofString "sort", Str.ofString "part"] (defScope s_part_shown) := ⟨rfl, rfl, rfl, by decide +kernel, rfl, by decide +kernel, by decide +kernel⟩
abbrev s_shown_row : Stmt := topS 31
abbrev n_shown_row : List Str := [Str.ofString "row", Str.ofString "words", Str.ofString "sort", Str.ofString "part"]
theorem sc_shown_row : FnScope n_shown_row [Str.ofString "row"] (defScope s_shown_row) := ⟨rfl, rfl, rfl, by decide +kernel, rfl, by decide +kernel, by decide +kernel⟩
abbrev s_piece_shown : Stmt := topS 32
abbrev n_piece_shown : List Str := [Str.ofString "piece", Str.ofString "head", Str.ofString "row"]
theorem sc_piece_shown : FnScope n_piece_shown [Str.ofString "piece"] (defScope s_piece_shown) := ⟨rfl, rfl, rfl, by decide +kernel, rfl, by decide +kernel, by decide +kernel⟩
abbrev s_shown_book : Stmt := topS 34
abbrev n_shown_book : List Str := [Str.ofString "book", Str.ofString "piece"]
theorem sc_shown_book : FnScope n_shown_book [Str.ofString "book"] (defScope s_shown_book) := ⟨rfl, rfl, rfl, by decide +kernel, rfl, by decide +kernel, by decide +kernel⟩
abbrev s_shown_piece : Stmt := topS 33
abbrev n_shown_piece : List Str := [Str.ofString "piece"]
theorem sc_shown_piece : FnScope n_shown_piece [Str.ofString "piece"] (defScope s_shown_piece) := ⟨rfl, rfl, rfl, by decide +kernel, rfl, by decide +kernel, by decide +kernel⟩
abbrev s_law : Stmt := topS 50
abbrev n_law : List Str := [Str.ofString "_law_script", Str.ofString "_law_book_here", Str.ofString "_law_due", Str.ofString "_law_given_in", Str.ofString "_law_piece"]
theorem sc_law : FnScope n_law [Str.ofString "_law_script"] (defScope s_law) := ⟨rfl, rfl, rfl, by decide +kernel, rfl, by decide +kernel, by decide +kernel⟩
def tab_PARTS : List (Str × U) := [(Str.ofString "set", (.tup [(.str (Str.ofString "word")), (.str (Str.ofString "number"))])), (Str.ofString "same", (.tup [(.str (Str.ofString "word")), (.str (Str.ofString "word"))])), (Str.ofString "sum", (.tup [(.str (Str.ofString "word")), (.str (Str.ofString "word")), (.str (Str.ofString "word"))])), (Str.ofString "less", (.tup [(.str (Str.ofString "word")), (.str (Str.ofString "word")), (.str (Str.ofString "word"))])), (Str.ofString "hold", (.tup [(.str (Str.ofString "word")), (.str (Str.ofString "word")), (.str (Str.ofString "args"))])), (Str.ofString "call", (.tup [(.str (Str.ofString "word")), (.str (Str.ofString "word")), (.str (Str.ofString "args")), (.str (Str.ofString "leaves"))])), (Str.ofString "last", (.tup [(.str (Str.ofString "word")), (.str (Str.ofString "args")), (.str (Str.ofString "leaves"))])), (Str.ofString "give", (.tup [(.str (Str.ofString "word"))])), (Str.ofString "keep", (.tup [(.str (Str.ofString "word")), (.str (Str.ofString "word"))])), (Str.ofString "kept", (.tup [(.str (Str.ofString "word")), (.str (Str.ofString "word"))])), (Str.ofString "skip", (.tup [(.str (Str.ofString "word")), (.str (Str.ofString "over"))])), (Str.ofString "over", (.tup [(.str (Str.ofString "over"))])), (Str.ofString "on", (.tup [])), (Str.ofString "count", (.tup [])), (Str.ofString "ask", (.tup [(.str (Str.ofString "word")), (.str (Str.ofString "over"))])), (Str.ofString "deed", (.tup [(.str (Str.ofString "word")), (.str (Str.ofString "word"))])), (Str.ofString "done", (.tup [(.str (Str.ofString "word")), (.str (Str.ofString "word"))]))]
/-! ### the defs as combinators -/
def t1_l_fitted : DS := (sSeq (sSet 4 (bin sub2 (bin sub2 (appN lenN (acons (var 0) anil)) (cst (.int 1))) (var 2))) (sSeq (sIf (tst (bin in2 (bin ix2 (var 3) (cst (.int 0))) (appN szT (acons (cst (.str (Str.ofString "skip"))) (acons (cst (.str (Str.ofString "over"))) (acons (cst (.str (Str.ofString "ask"))) anil)))))) (sSeq (sSet 3 (bin ix2 (appN szL (acons (bin add2 (slD (var 3) noO (soO (neg1D (cst (.int 1))))) (appN szT (acons (bin add2 (cst (.int 1)) (bin mod2 (bin sub2 (bin ix2 (var 3) (neg1D (cst (.int 1)))) (cst (.int 1))) (appN maxN (acons (cst (.int 1)) (acons (var 4) anil))))) anil))) (acons (appN szT (acons (cst (.str (Str.ofString "on"))) anil)) anil))) (appN intN (acons (bin eq2 (var 4) (cst (.int 0))) anil)))) sNil) sNil) (sSeq (sApp 1 (var 3)) sNil)))
def b_l_fitted : DS := (sSeq (sOwn 1 (szDL anil)) (sSeq (sFor (itA enumerateN (acons (var 0) anil)) (tgT [2, 3]) t1_l_fitted) (sSeq (frzS 1 (sRet (appN tupN (acons (var 1) anil)))) sNil)))
def f_l_fitted : List U → Store → Rs U := runB 5 1 b_l_fitted
def b_l_hand : DS := (sSeq (sSet 2 (bin ix2 (bin add2 (slD (var 0) (soO (var 1)) (soO (bin add2 (var 1) (cst (.int 1))))) (appN szL (acons (cst (.int 0)) anil))) (cst (.int 0)))) (sSeq (sSet 3 (bin mod2 (bin mul2 (bin add2 (bin add2 (bin mod2 (var 2) (cst (.int 2147483647))) (bin mul2 (cst (.int 7919)) (var 1))) (cst (.int 1))) (cst (.int 48271))) (cst (.int 2147483629)))) (sSeq (sRet (refL (szDL (acons (bin mul2 (appN intN (acons (bin ge2 (var 2) (bin pow2 (cst (.int 10)) (cst (.int 18)))) anil)) (var 2)) (acons (var 3) anil))))) sNil)))
def f_l_hand : List U → Store → Rs U := runB 4 2 b_l_hand
def b_l_draw : DS := (sSeq (sIf (tst (bin gt2 (ixR (var 0) (cst (.int 0))) (cst (.int 0)))) (sSeq (sSet 2 (bin mod2 (ixR (var 0) (cst (.int 0))) (var 1))) (sSeq (sIxR (var 0) (cst (.int 0)) (bin fdiv2 (ixR (var 0) (cst (.int 0))) (var 1))) (sSeq (sRet (var 2)) sNil))) sNil) (sSeq (sIxR (var 0) (cst (.int 1)) (bin mod2 (bin add2 (bin mul2 (ixR (var 0) (cst (.int 1))) (cst (.int 48271))) (cst (.int 11))) (cst (.int 2147483647)))) (sSeq (sRet (bin mod2 (bin fdiv2 (bin mod2 (bin mul2 (ixR (var 0) (cst (.int 1))) (ixR (var 0) (cst (.int 1)))) (cst (.int 2147483629))) (cst (.int 64))) (var 1))) sNil)))
def f_l_draw : List U → Store → Rs U := runB 3 2 b_l_draw
def b_l_some : DS := (sSeq (sRet (appN tupN (acons (newL (itE sortTxt (newL (compD (itemsD (var 1)) [3] (tgN 3) (tst (bin lt2 (appU f_l_draw (acons (var 0) (acons (cst (.int 4)) anil))) (var 2))) (var 3))))) anil))) sNil)
def f_l_some : List U → Store → Rs U := runB 4 3 b_l_some
def b_l_words : DS := (sSeq (sSet 2 (cst (.str (Str.ofString "abcdefghijklmnopqrstuvwxyz")))) (sSeq (sSet 3 (appU f_l_draw (acons (var 0) (acons (cst (.int 26)) anil)))) (sSeq (sIf (tst (bin eq2 (appU f_l_draw (acons (var 0) (acons (cst (.int 3)) anil))) (cst (.int 0)))) (sSeq (sSet 5 (joinD (cst (.str (Str.ofString ""))) (newL (compD (itA rng1 (acons (cst (.int 8)) anil)) [7] (tgN 7) yesT (bin ix2 (var 2) (bin mod2 (bin add2 (var 3) (bin mul2 (cst (.int 5)) (var 7))) (cst (.int 26)))))))) (sSeq (sRet (newL (compD (itA rng1 (acons (var 1) anil)) [6] (tgN 6) yesT (slD (var 5) noO (soO (bin add2 (cst (.int 1)) (var 6))))))) sNil)) sNil) (sSeq (sSet 4 (bin ix2 (appN szL (acons (cst (.str (Str.ofString ""))) (acons (cst (.str (Str.ofString "o"))) (acons (cst (.str (Str.ofString "mine"))) (acons (cst (.str (Str.ofString "zzzzzzz"))) anil))))) (appU f_l_draw (acons (var 0) (acons (cst (.int 4)) anil))))) (sSeq (sRet (newL (compD (itA rng1 (acons (var 1) anil)) [6] (tgN 6) yesT (bin add2 (bin ix2 (var 2) (bin mod2 (bin add2 (var 3) (bin mul2 (cst (.int 3)) (var 6))) (cst (.int 26)))) (var 4))))) sNil)))))
def f_l_words : List U → Store → Rs U := runB 8 2 b_l_words
def t1_l_heads : DS := (sSeq (sSet 9 (appU f_l_draw (acons (var 2) (acons (cst (.int 6)) anil)))) (sSeq (sSet 10 (appN tupN (acons (slD (bin add2 (var 6) (var 6)) (soO (var 9)) (soO (bin add2 (var 9) (appU f_l_draw (acons (var 2) (acons (cst (.int 5)) anil)))))) anil))) (sSeq (sApp 7 (appN szT (acons (var 8) (acons (appU f_l_some (acons (var 2) (acons (var 5) (acons (cst (.int 3)) anil)))) (acons (var 10) anil))))) sNil)))
def b_l_heads : DS := (sSeq (sSet 2 (appU f_l_hand (acons (var 0) (acons (cst (.int 0)) anil)))) (sSeq (sSet 3 (bin add2 (cst (.int 1)) (appU f_l_draw (acons (var 2) (acons (var 1) anil))))) (sSeq (sSet 4 (appU f_l_words (acons (var 2) (acons (var 3) anil)))) (sSeq (sSet 5 (appU f_l_words (acons (var 2) (acons (bin add2 (cst (.int 1)) (appU f_l_draw (acons (var 2) (acons (cst (.int 8)) anil)))) anil)))) (sSeq (sSet 6 (appU f_l_words (acons (var 2) (acons (cst (.int 6)) anil)))) (sSeq (sOwn 7 (szDL anil)) (sSeq (sFor (itemsD (var 4)) (tgN 8) t1_l_heads) (sSeq (frzS 7 (sRet (appN szT (acons (var 7) (acons (var 5) (acons (var 6) anil)))))) sNil))))))))
def f_l_heads : List U → Store → Rs U := runB 11 2 b_l_heads
def b_l_args : DS := (sSeq (sRet (appN tupN (acons (newL (compD (itA rng1 (acons (var 2) anil)) [3] (tgN 3) yesT (bin ix2 (var 1) (appU f_l_draw (acons (var 0) (acons (cst (.int 6)) anil)))))) anil))) sNil)
def f_l_args : List U → Store → Rs U := runB 4 3 b_l_args
def b_l_pair : DS := (sSeq (sUnp (tgA [8, 9, 10]) (var 1)) (sSeq (sUnp (tgA [11, 12, 13]) (bin ix2 (var 8) (appU f_l_draw (acons (var 0) (acons (appN lenN (acons (var 8) anil)) anil))))) (sSeq (sSet 2 (appU f_l_draw (acons (var 0) (acons (bin add2 (appN lenN (acons (var 13) anil)) (cst (.int 1))) anil)))) (sSeq (sSet 3 (appN maxN (acons (cst (.int 0)) (acons (bin sub2 (bin sub2 (appN lenN (acons (var 13) anil)) (var 2)) (appN intN (acons (bin eq2 (appU f_l_draw (acons (var 0) (acons (cst (.int 12)) anil))) (cst (.int 0))) anil))) anil)))) (sSeq (sSet 4 (bin ix2 (var 10) (appU f_l_draw (acons (var 0) (acons (cst (.int 6)) anil))))) (sSeq (sIf (tst (bin eq2 (appU f_l_draw (acons (var 0) (acons (cst (.int 16)) anil))) (cst (.int 0)))) (sSeq (sSet 11 (cst (.str (Str.ofString "gone")))) sNil) sNil) (sSeq (sSet 5 (appN szT (acons (cst (.str (Str.ofString "hold"))) (acons (var 4) (acons (var 11) (acons (appU f_l_args (acons (var 0) (acons (var 10) (acons (var 2) anil)))) anil)))))) (sSeq (sSet 6 (appU f_l_args (acons (var 0) (acons (var 10) (acons (var 3) anil))))) (sSeq (sSet 7 (appU f_l_some (acons (var 0) (acons (var 9) (acons (cst (.int 1)) anil))))) (sSeq (sIf (tst (bin eq2 (appU f_l_draw (acons (var 0) (acons (cst (.int 4)) anil))) (cst (.int 0)))) (sSeq (sRet (appN szL (acons (appN szT (acons (cst (.str (Str.ofString "skip"))) (acons (bin ix2 (var 10) (appU f_l_draw (acons (var 0) (acons (cst (.int 6)) anil)))) (acons (cst (.int 2)) anil)))) (acons (var 5) (acons (appN szT (acons (cst (.str (Str.ofString "last"))) (acons (var 4) (acons (var 6) (acons (var 7) anil))))) anil))))) sNil) sNil) (sSeq (sRet (appN szL (acons (var 5) (acons (appN szT (acons (cst (.str (Str.ofString "call"))) (acons (bin ix2 (var 10) (appU f_l_draw (acons (var 0) (acons (cst (.int 6)) anil)))) (acons (var 4) (acons (var 6) (acons (var 7) anil)))))) anil)))) sNil)))))))))))
def f_l_pair : List U → Store → Rs U := runB 14 2 b_l_pair
def b_l_number : DS := (sSeq (sRet (bin ix2 (appN szL (acons (cst (.int 0)) (acons (cst (.int 1)) (acons (bin sub2 (appU f_l_draw (acons (var 0) (acons (cst (.int 30)) anil))) (cst (.int 10))) (acons (bin sub2 (bin pow2 (cst (.int 10)) (cst (.int 18))) (appU f_l_draw (acons (var 0) (acons (cst (.int 3)) anil)))) (acons (bin sub2 (cst (.int 0)) (bin pow2 (cst (.int 10)) (cst (.int 18)))) anil)))))) (appU f_l_draw (acons (var 0) (acons (cst (.int 5)) anil))))) sNil)
def f_l_number : List U → Store → Rs U := runB 1 1 b_l_number
def b_l_plain : DS := (sSeq (sUnp (tgA [3, 4, 5]) (var 1)) (sSeq (sUnp (tgA [6, 7, 8]) (appU f_l_args (acons (var 0) (acons (var 5) (acons (cst (.int 3)) anil))))) (sSeq (sIf (tst (bin eq2 (var 2) (cst (.int 0)))) (sSeq (sRet (appN szL (acons (appN szT (acons (cst (.str (Str.ofString "set"))) (acons (var 6) (acons (appU f_l_number (acons (var 0) anil)) anil)))) anil))) sNil) sNil) (sSeq (sIf (tst (bin eq2 (var 2) (cst (.int 1)))) (sSeq (sRet (appN szL (acons (appN szT (acons (cst (.str (Str.ofString "same"))) (acons (var 6) (acons (var 7) anil)))) anil))) sNil) sNil) (sSeq (sIf (tst (bin eq2 (var 2) (cst (.int 2)))) (sSeq (sRet (appN szL (acons (appN szT (acons (bin ix2 (appN szL (acons (cst (.str (Str.ofString "sum"))) (acons (cst (.str (Str.ofString "less"))) anil))) (appU f_l_draw (acons (var 0) (acons (cst (.int 2)) anil)))) (acons (var 6) (acons (var 7) (acons (var 8) anil))))) anil))) sNil) sNil) (sSeq (sIf (tst (bin eq2 (var 2) (cst (.int 3)))) (sSeq (sSet 9 (bin ix2 (bin ix2 (bin add2 (var 3) (appN szL (acons (appN szT (acons (cst (.str (Str.ofString "gone"))) (acons (appN szT anil) (acons (appN szT anil) anil)))) anil))) (appU f_l_draw (acons (var 0) (acons (bin add2 (appN lenN (acons (var 3) anil)) (cst (.int 1))) anil)))) (cst (.int 0)))) (sSeq (sRet (appN szL (acons (appN szT (acons (cst (.str (Str.ofString "hold"))) (acons (var 6) (acons (var 9) (acons (appU f_l_args (acons (var 0) (acons (var 5) (acons (appU f_l_draw (acons (var 0) (acons (cst (.int 5)) anil))) anil)))) anil))))) anil))) sNil)) sNil) (sSeq (sIf (tst (bin eq2 (var 2) (cst (.int 4)))) (sSeq (sSet 10 (bin ix2 (var 5) (appU f_l_draw (acons (var 0) (acons (cst (.int 3)) anil))))) (sSeq (sRet (appN szL (acons (bin ix2 (appN szL (acons (appN szT (acons (cst (.str (Str.ofString "keep"))) (acons (var 10) (acons (var 6) anil)))) (acons (appN szT (acons (cst (.str (Str.ofString "kept"))) (acons (var 6) (acons (var 10) anil)))) anil))) (appU f_l_draw (acons (var 0) (acons (cst (.int 2)) anil)))) anil))) sNil)) sNil) (sSeq (sIf (tst (bin eq2 (var 2) (cst (.int 5)))) (sSeq (sSet 11 (bin add2 (cst (.int 1)) (appU f_l_draw (acons (var 0) (acons (cst (.int 3)) anil))))) (sSeq (sRet (appN szL (acons (bin ix2 (appN szL (acons (appN szT (acons (cst (.str (Str.ofString "skip"))) (acons (var 6) (acons (var 11) anil)))) (acons (appN szT (acons (cst (.str (Str.ofString "over"))) (acons (var 11) anil))) (acons (appN szT (acons (cst (.str (Str.ofString "on"))) anil)) (acons (appN szT (acons (cst (.str (Str.ofString "count"))) anil)) anil))))) (appU f_l_draw (acons (var 0) (acons (cst (.int 4)) anil)))) anil))) sNil)) sNil) (sSeq (sRet (appN szL (acons (appN szT (acons (cst (.str (Str.ofString "skip"))) (acons (var 6) (acons (cst (.int 1)) anil)))) (acons (appN szT (acons (cst (.str (Str.ofString "give"))) (acons (var 7) anil))) anil)))) sNil)))))))))
def f_l_plain : List U → Store → Rs U := runB 12 3 b_l_plain
def b_l_more : DS := (sSeq (sUnp (tgA [4, 5, 6]) (var 1)) (sSeq (sSet 2 (appU f_l_draw (acons (var 0) (acons (cst (.int 16)) anil)))) (sSeq (sSet 3 (bin ix2 (var 5) (appU f_l_draw (acons (var 0) (acons (appN lenN (acons (var 5) anil)) anil))))) (sSeq (sIf (tst (bin lt2 (var 2) (cst (.int 7)))) (sSeq (sRet (appU f_l_plain (acons (var 0) (acons (var 1) (acons (var 2) anil))))) sNil) sNil) (sSeq (sIf (tst (bin lt2 (var 2) (cst (.int 10)))) (sSeq (sRet (appU f_l_pair (acons (var 0) (acons (var 1) anil)))) sNil) sNil) (sSeq (sIf (tst (bin eq2 (var 2) (cst (.int 10)))) (sSeq (sUnp (tgA [7, 8]) (appU f_l_args (acons (var 0) (acons (var 6) (acons (cst (.int 2)) anil))))) (sSeq (sRet (appN szL (acons (appN szT (acons (cst (.str (Str.ofString "call"))) (acons (var 7) (acons (var 8) (acons (appU f_l_args (acons (var 0) (acons (var 6) (acons (appU f_l_draw (acons (var 0) (acons (cst (.int 3)) anil))) anil)))) (acons (appU f_l_some (acons (var 0) (acons (var 5) (acons (cst (.int 1)) anil)))) anil)))))) anil))) sNil)) sNil) (sSeq (sIf (tst (bin lt2 (var 2) (cst (.int 14)))) (sSeq (sRet (appN szL (acons (appN szT (acons (cst (.str (Str.ofString "ask"))) (acons (var 3) (acons (bin add2 (cst (.int 1)) (appU f_l_draw (acons (var 0) (acons (cst (.int 3)) anil)))) anil)))) anil))) sNil) sNil) (sSeq (sRet (appN szL (acons (appN szT (acons (bin ix2 (appN szL (acons (cst (.str (Str.ofString "deed"))) (acons (cst (.str (Str.ofString "done"))) anil))) (bin sub2 (var 2) (cst (.int 14)))) (acons (var 3) (acons (bin ix2 (var 6) (appU f_l_draw (acons (var 0) (acons (cst (.int 6)) anil)))) anil)))) anil))) sNil))))))))
def f_l_more : List U → Store → Rs U := runB 9 2 b_l_more
def t1_l_book : DS := (sSeq (sSet 7 (appU f_l_more (acons (appU f_l_hand (acons (var 0) (acons (var 5) anil))) (acons (var 3) anil)))) (sSeq (sSet 8 (bin ix2 (var 4) (bin mod2 (bin sub2 (var 5) (var 2)) (appN lenN (acons (var 4) anil))))) (sSeq (sIf (tst (bin lt2 (bin add2 (lenR (var 8)) (appN lenN (acons (var 7) anil))) (cst (.int 60)))) (sSeq (sExtR (var 8) (var 7)) sNil) sNil) sNil)))
def t2_l_book : DS := (sSeq (sApp 6 (bin add2 (var 9) (appN szT (acons (appU f_l_fitted (acons (newL (catR (var 8) (appN szL (acons (appN szT (acons (cst (.str (Str.ofString "on"))) anil)) anil)))) anil)) anil)))) sNil)
def b_l_book : DS := (sSeq (sSet 3 (appU f_l_heads (acons (var 0) (acons (var 1) anil)))) (sSeq (sSet 4 (newL (compD (itemsD (bin ix2 (var 3) (cst (.int 0)))) [9] (tgN 9) yesT (refL (szDL anil))))) (sSeq (sFor (itA rng2 (acons (var 2) (acons (appN maxN (acons (bin add2 (var 2) (cst (.int 9))) (acons (appN minN (acons (appN lenN (acons (var 0) anil)) (acons (cst (.int 63)) anil))) anil))) anil))) (tgN 5) t1_l_book) (sSeq (sOwn 6 (szDL anil)) (sSeq (sFor (itA zipN (acons (bin ix2 (var 3) (cst (.int 0))) (acons (var 4) anil))) (tgT [9, 8]) t2_l_book) (sSeq (frzS 6 (sRet (appN szT (acons (var 6) (acons (bin ix2 (var 3) (cst (.int 1))) (acons (bin ix2 (var 3) (cst (.int 2))) anil)))))) sNil))))))
def f_l_book : List U → Store → Rs U := runB 10 3 b_l_book
def t1_l_row_text : DS := (sSeq (sIf (andT (tst (bin in2 (bin ix2 (var 0) (cst (.int 0))) (appN szT (acons (cst (.str (Str.ofString "call"))) (acons (cst (.str (Str.ofString "last"))) anil))))) (tst (bin eq2 (var 2) (bin sub2 (appN lenN (acons (var 0) anil)) (cst (.int 2)))))) (sSeq (sApp 1 (cst (.str (Str.ofString "!")))) sNil) sNil) (sSeq (sExt 1 (ifE (tst (appN isiN (acons (var 3) (acons (cst (.ty "tuple")) anil)))) (var 3) (appN szL (acons (appN strN (acons (var 3) anil)) anil)))) sNil))
def b_l_row_text : DS := (sSeq (sOwn 1 (szDL (acons (bin ix2 (var 0) (cst (.int 0))) anil))) (sSeq (sFor (itA enumerateN (acons (slD (var 0) (soO (cst (.int 1))) noO) anil)) (tgT [2, 3]) t1_l_row_text) (sSeq (frzS 1 (sRet (joinD (cst (.str (Str.ofString " "))) (var 1)))) sNil)))
def f_l_row_text : List U → Store → Rs U := runB 4 1 b_l_row_text
def b_l_piece_text : DS := (sSeq (sUnp (tgA [2, 3, 4, 5]) (var 0)) (sSeq (sSet 1 (joinD (cst (.str (Str.ofString " "))) (bin add2 (bin add2 (bin add2 (appN szL (acons (cst (.str (Str.ofString "piece"))) (acons (var 2) anil))) (newL (itA lstL (acons (var 4) anil)))) (appN szL (acons (cst (.str (Str.ofString "!"))) anil))) (newL (itA lstL (acons (var 3) anil)))))) (sSeq (sRet (joinD (cst (.str (Str.ofString "\n"))) (bin add2 (appN szL (acons (var 1) anil)) (newL (compD (itemsD (var 5)) [6] (tgN 6) yesT (appU f_l_row_text (acons (var 6) anil))))))) sNil)))
def f_l_piece_text : List U → Store → Rs U := runB 7 1 b_l_piece_text
def b_goes_over : DS := (sSeq (sIf (tst (bin in2 (bin ix2 (var 0) (cst (.int 0))) (appN szT (acons (cst (.str (Str.ofString "skip"))) (acons (cst (.str (Str.ofString "over"))) (acons (cst (.str (Str.ofString "ask"))) anil)))))) (sSeq (sRet (bin ix2 (var 0) (neg1D (cst (.int 1))))) sNil) sNil) (sSeq (sRet (cst (.int 0))) sNil))
def f_goes_over : List U → Store → Rs U := runB 1 1 b_goes_over
def b_is_word : DS := (sSeq (sIf (orT (notT (tst (appN isiN (acons (var 0) (acons (cst (.ty "str")) anil))))) (notT (tst (chain le2 le2 (cst (.int 1)) (appN lenN (acons (var 0) anil)) (cst (.int 8)))))) (sSeq (sRet (cst (.bl false))) sNil) sNil) (sSeq (sRet (appN allN (acons (newL (compD (itemsD (var 0)) [1] (tgN 1) yesT (bin in2 (var 1) (cst (.str (Str.ofString "abcdefghijklmnopqrstuvwxyz")))))) anil))) sNil))
def f_is_word : List U → Store → Rs U := runB 2 1 b_is_word
def b_are_args : DS := (sSeq (sRet (andV (appN isiN (acons (var 0) (acons (cst (.ty "tuple")) anil))) (andV (bin le2 (appN lenN (acons (var 0) anil)) (cst (.int 4))) (appN allN (acons (newL (compD (itemsD (var 0)) [1] (tgN 1) yesT (appU f_is_word (acons (var 1) anil)))) anil))))) sNil)
def f_are_args : List U → Store → Rs U := runB 2 1 b_are_args
def t1_are_leaves : DS := (sSeq (sIf (orT (notT (tst (appU f_is_word (acons (var 2) anil)))) (andT (tst (bin gt2 (var 1) (cst (.int 0)))) (tst (bin le2 (var 2) (bin ix2 (var 0) (bin sub2 (var 1) (cst (.int 1)))))))) (sSeq (sRet (cst (.bl false))) sNil) sNil) sNil)
def b_are_leaves : DS := (sSeq (sIf (orT (notT (tst (appN isiN (acons (var 0) (acons (cst (.ty "tuple")) anil))))) (tst (bin gt2 (appN lenN (acons (var 0) anil)) (cst (.int 8))))) (sSeq (sRet (cst (.bl false))) sNil) sNil) (sSeq (sFor (itA enumerateN (acons (var 0) anil)) (tgT [1, 2]) t1_are_leaves) (sSeq (sRet (cst (.bl true))) sNil)))
def f_are_leaves : List U → Store → Rs U := runB 3 1 b_are_leaves
def b_is_whole : DS := (sSeq (sRet (andV (appN isiN (acons (var 0) (acons (cst (.ty "int")) anil))) (notV (appN isiN (acons (var 0) (acons (cst (.ty "bool")) anil)))))) sNil)
def f_is_whole : List U → Store → Rs U := runB 1 1 b_is_whole
def b_is_number : DS := (sSeq (sRet (andV (appU f_is_whole (acons (var 0) anil)) (bin le2 (appN absN (acons (var 0) anil)) (cst (.int 1000000000000000000))))) sNil)
def f_is_number : List U → Store → Rs U := runB 1 1 b_is_number
def b_is_part : DS := (sSeq (sIf (tst (bin eq2 (var 0) (cst (.str (Str.ofString "word"))))) (sSeq (sRet (appU f_is_word (acons (var 1) anil))) sNil) sNil) (sSeq (sIf (tst (bin eq2 (var 0) (cst (.str (Str.ofString "number"))))) (sSeq (sRet (appU f_is_number (acons (var 1) anil))) sNil) sNil) (sSeq (sIf (tst (bin eq2 (var 0) (cst (.str (Str.ofString "args"))))) (sSeq (sRet (appU f_are_args (acons (var 1) anil))) sNil) sNil) (sSeq (sIf (tst (bin eq2 (var 0) (cst (.str (Str.ofString "leaves"))))) (sSeq (sRet (appU f_are_leaves (acons (var 1) anil))) sNil) sNil) (sSeq (sRet (andV (appU f_is_whole (acons (var 1) anil)) (bin gt2 (var 1) (cst (.int 0))))) sNil)))))
def f_is_part : List U → Store → Rs U := runB 2 2 b_is_part
def b_is_row : DS := (sSeq (sIf (orT (notT (tst (appN isiN (acons (var 0) (acons (cst (.ty "tuple")) anil))))) (orT (tst (bin eq2 (var 0) (appN szT anil))) (notT (tst (appN isiN (acons (bin ix2 (var 0) (cst (.int 0))) (acons (cst (.ty "str")) anil))))))) (sSeq (sRet (cst (.bl false))) sNil) sNil) (sSeq (sIf (orT (tst (ap1 (tabNot tab_PARTS) (bin ix2 (var 0) (cst (.int 0))))) (tst (bin ne2 (appN lenN (acons (var 0) anil)) (bin add2 (appN lenN (acons (ap1 (tabGet tab_PARTS) (bin ix2 (var 0) (cst (.int 0)))) anil)) (cst (.int 1)))))) (sSeq (sRet (cst (.bl false))) sNil) sNil) (sSeq (sRet (appN allN (acons (newL (compD (itA zipN (acons (ap1 (tabGet tab_PARTS) (bin ix2 (var 0) (cst (.int 0)))) (acons (slD (var 0) (soO (cst (.int 1))) noO) anil))) [1, 2] (tgT [1, 2]) yesT (appU f_is_part (acons (var 1) (acons (var 2) anil))))) anil))) sNil)))
def f_is_row : List U → Store → Rs U := runB 3 1 b_is_row
def t1_bad_row : DS := (sSeq (sIf (orT (notT (tst (appU f_is_row (acons (var 2) anil)))) (tst (bin gt2 (bin add2 (bin add2 (var 1) (cst (.int 1))) (appU f_goes_over (acons (var 2) anil))) (appN lenN (acons (var 0) anil))))) (sSeq (sRet (var 1)) sNil) sNil) sNil)
def b_bad_row : DS := (sSeq (sFor (itA enumerateN (acons (var 0) anil)) (tgT [1, 2]) t1_bad_row) (sSeq (sRet (cst .non)) sNil))
def f_bad_row : List U → Store → Rs U := runB 3 1 b_bad_row
def b_is_head : DS := (sSeq (sIf (orT (notT (tst (appN isiN (acons (var 0) (acons (cst (.ty "tuple")) anil))))) (tst (bin ne2 (appN lenN (acons (var 0) anil)) (cst (.int 4))))) (sSeq (sRet (cst (.bl false))) sNil) sNil) (sSeq (sUnp (tgA [1, 2, 3, 4]) (var 0)) (sSeq (sIf (orT (notT (tst (appU f_is_word (acons (var 1) anil)))) (orT (notT (tst (appU f_are_leaves (acons (var 2) anil)))) (orT (notT (tst (appU f_are_args (acons (var 3) anil)))) (tst (bin ne2 (ap1 lenSet1 (var 3)) (appN lenN (acons (var 3) anil))))))) (sSeq (sRet (cst (.bl false))) sNil) sNil) (sSeq (sRet (andV (appN isiN (acons (var 4) (acons (cst (.ty "tuple")) anil))) (chain le2 le2 (cst (.int 1)) (appN lenN (acons (var 4) anil)) (cst (.int 60))))) sNil))))
def f_is_head : List U → Store → Rs U := runB 5 1 b_is_head
def b_leaves_in : DS := (sSeq (sIf (tst (bin in2 (bin ix2 (var 0) (cst (.int 0))) (appN szT (acons (cst (.str (Str.ofString "call"))) (acons (cst (.str (Str.ofString "last"))) anil))))) (sSeq (sRet (bin ix2 (var 0) (neg1D (cst (.int 1))))) sNil) sNil) (sSeq (sIf (tst (bin in2 (bin ix2 (var 0) (cst (.int 0))) (appN szT (acons (cst (.str (Str.ofString "ask"))) (acons (cst (.str (Str.ofString "deed"))) (acons (cst (.str (Str.ofString "done"))) anil)))))) (sSeq (sRet (appN szT (acons (bin ix2 (var 0) (cst (.int 1))) anil))) sNil) sNil) (sSeq (sRet (appN szT anil)) sNil)))
def f_leaves_in : List U → Store → Rs U := runB 1 1 b_leaves_in
def t1_words_of : DS := (sSeq (sExt 1 (appU f_leaves_in (acons (var 2) anil))) sNil)
def b_words_of : DS := (sSeq (sOwn 1 (itA lstL (acons (bin ix2 (var 0) (cst (.int 1))) anil))) (sSeq (sFor (itemsD (bin ix2 (var 0) (cst (.int 3)))) (tgN 2) t1_words_of) (sSeq (frzS 1 (sRet (var 1))) sNil)))
def f_words_of : List U → Store → Rs U := runB 3 1 b_words_of
def t1_roster_in : DS := (sSeq (sExt 1 (appU f_words_of (acons (var 2) anil))) sNil)
def b_roster_in : DS := (sSeq (sOwn 1 (szDL anil)) (sSeq (sFor (itemsD (var 0)) (tgN 2) t1_roster_in) (sSeq (frzS 1 (sRet (appN tupN (acons (newL (itE sortSet1 (var 1))) anil)))) sNil)))
def f_roster_in : List U → Store → Rs U := runB 3 1 b_roster_in
def t1_look_at_book : DS := (sSeq (sIf (orT (notT (tst (appU f_is_head (acons (var 2) anil)))) (tst (bin in2 (bin ix2 (var 2) (cst (.int 0))) (newL (compD (itemsD (slD (var 0) noO (soO (var 1)))) [4] (tgN 4) yesT (bin ix2 (var 4) (cst (.int 0)))))))) (sSeq sBad sNil) sNil) (sSeq (sSet 3 (appU f_bad_row (acons (bin ix2 (var 2) (cst (.int 3))) anil))) (sSeq (sIf (tst (bin isnot2 (var 3) (cst .non))) (sSeq sBad sNil) sNil) sNil)))
def b_look_at_book : DS := (sSeq (sIf (orT (notT (tst (appN isiN (acons (var 0) (acons (cst (.ty "list")) anil))))) (notT (tst (chain le2 le2 (cst (.int 1)) (appN lenN (acons (var 0) anil)) (cst (.int 12)))))) (sSeq sBad sNil) sNil) (sSeq (sFor (itA enumerateN (acons (var 0) anil)) (tgT [1, 2]) t1_look_at_book) (sSeq (sIf (tst (bin gt2 (appN lenN (acons (appU f_roster_in (acons (var 0) anil)) anil)) (cst (.int 8)))) (sSeq sBad sNil) sNil) sNil)))
def f_look_at_book : List U → Store → Rs U := runB 5 1 b_look_at_book
def b_part_shown : DS := (sSeq (sIf (tst (bin eq2 (var 0) (cst (.str (Str.ofString "leaves"))))) (sSeq (sRet (bin add2 (appN szL (acons (cst (.str (Str.ofString "!"))) anil)) (newL (itA lstL (acons (var 1) anil))))) sNil) sNil) (sSeq (sIf (tst (bin eq2 (var 0) (cst (.str (Str.ofString "args"))))) (sSeq (sRet (newL (itA lstL (acons (var 1) anil)))) sNil) sNil) (sSeq (sRet (appN szL (acons (appN strN (acons (var 1) anil)) anil))) sNil)))
def f_part_shown : List U → Store → Rs U := runB 2 2 b_part_shown
def t1_shown_row : DS := (sSeq (sExt 1 (appU f_part_shown (acons (var 2) (acons (var 3) anil)))) sNil)
def b_shown_row : DS := (sSeq (sOwn 1 (szDL (acons (bin ix2 (var 0) (cst (.int 0))) anil))) (sSeq (sFor (itA zipN (acons (ap1 (tabGet tab_PARTS) (bin ix2 (var 0) (cst (.int 0)))) (acons (slD (var 0) (soO (cst (.int 1))) noO) anil))) (tgT [2, 3]) t1_shown_row) (sSeq (frzS 1 (sRet (joinD (cst (.str (Str.ofString " "))) (var 1)))) sNil)))
def f_shown_row : List U → Store → Rs U := runB 4 1 b_shown_row
def b_piece_shown : DS := (sSeq (sSet 1 (joinD (cst (.str (Str.ofString " "))) (bin add2 (bin add2 (bin add2 (appN szL (acons (cst (.str (Str.ofString "piece"))) (acons (bin ix2 (var 0) (cst (.int 0))) anil))) (newL (itA lstL (acons (bin ix2 (var 0) (cst (.int 2))) anil)))) (appN szL (acons (cst (.str (Str.ofString "!"))) anil))) (newL (itA lstL (acons (bin ix2 (var 0) (cst (.int 1))) anil)))))) (sSeq (sRet (joinD (cst (.str (Str.ofString "\n"))) (bin add2 (appN szL (acons (var 1) anil)) (newL (compD (itemsD (bin ix2 (var 0) (cst (.int 3)))) [2] (tgN 2) yesT (appU f_shown_row (acons (var 2) anil))))))) sNil))
def f_piece_shown : List U → Store → Rs U := runB 3 1 b_piece_shown
def b_shown_book : DS := (sSeq (sExpr (appU f_look_at_book (acons (var 0) anil))) (sSeq (sRet (joinD (cst (.str (Str.ofString "\n"))) (newL (compD (itemsD (var 0)) [1] (tgN 1) yesT (appU f_piece_shown (acons (var 1) anil)))))) sNil))
def f_shown_book : List U → Store → Rs U := runB 2 1 b_shown_book
def b_shown_piece : DS := (sSeq (sExpr (appU f_look_at_book (acons (appN szL (acons (var 0) anil)) anil))) (sSeq (sRet (appU f_piece_shown (acons (var 0) anil))) sNil))
def f_shown_piece : List U → Store → Rs U := runB 1 1 b_shown_piece
def b_law : DS := (sSeq (sSet 1 (bin ix2 (appU f_l_book (acons (var 0) (acons (cst (.int 6)) (acons (cst (.int 1)) anil)))) (cst (.int 0)))) (sSeq (sSet 2 (newL (compD (itemsD (var 1)) [4] (tgN 4) yesT (appU f_l_piece_text (acons (var 4) anil))))) (sSeq (sOwn 3 (itA lstL (acons (var 1) anil))) (sSeq (sIf (orT (tst (bin ne2 (appO f_shown_book 3) (joinD (cst (.str (Str.ofString "\n"))) (var 2)))) (tst (binOL ne2 3 (var 1)))) (sSeq (sRet (cst (.bl false))) sNil) sNil) (sSeq (sPop 3) (sSeq (sIf (orT (tst (bin ne2 (newL (compD (itemsD (var 1)) [4] (tgN 4) yesT (appU f_shown_piece (acons (var 4) anil)))) (var 2))) (tst (bin ne2 (newL (compD (itemsD (ap1 back1 (var 1))) [4] (tgN 4) yesT (appU f_shown_piece (acons (var 4) anil)))) (ap1 back1 (var 2))))) (sSeq (sRet (cst (.bl false))) sNil) sNil) (sSeq (sRet (andV (bin eq2 (appU f_shown_book (acons (ap1 back1 (var 1)) anil)) (joinD (cst (.str (Str.ofString "\n"))) (ap1 back1 (var 2)))) (bin eq2 (appU f_shown_book (acons (var 1) anil)) (joinD (cst (.str (Str.ofString "\n"))) (var 2))))) sNil)))))))
def f_law : List U → Store → Rs U := runB 5 1 b_law
structure Tx (K : PySem.W.Frag) (w : World) (mg : Str → Option Value) : Prop where
  b_abs : mg "abs" = none
  b_all : mg "all" = none
  b_bool : mg "bool" = none
  b_enumerate : mg "enumerate" = none
  b_int : mg "int" = none
  b_isinstance : mg "isinstance" = none
  b_len : mg "len" = none
  b_list : mg "list" = none
  b_max : mg "max" = none
  b_min : mg "min" = none
  b_range : mg "range" = none
  b_set : mg "set" = none
  b_sorted : mg "sorted" = none
  b_str : mg "str" = none
  b_tuple : mg "tuple" = none
  b_zip : mg "zip" = none
  c_GREATEST : ∃ t, mg "GREATEST" = some (Value.int 1000000000000000000 t)
  c_LETTERS : ∃ t, mg "LETTERS" = some (Value.str (Str.ofString "abcdefghijklmnopqrstuvwxyz") t)
  c_LONGEST : ∃ t, mg "LONGEST" = some (Value.int 8 t)
  c_MOST : ∃ t, mg "MOST" = some (Value.int 8 t)
  c_MOST_ARGS : ∃ t, mg "MOST_ARGS" = some (Value.int 4 t)
  c_MOST_LEAVES : ∃ t, mg "MOST_LEAVES" = some (Value.int 8 t)
  c_MOST_PIECES : ∃ t, mg "MOST_PIECES" = some (Value.int 12 t)
  c_MOST_ROWS : ∃ t, mg "MOST_ROWS" = some (Value.int 60 t)
  t_PARTS : KTab K w mg "PARTS" tab_PARTS
section
variable {P : Program} {w : World} {K : PySem.W.Frag} {mg : Str → Option Value} {base : Heap} {xs : XS}
set_option maxHeartbeats 4000000 in
theorem ok_l_fitted (T : Tx K w mg)   {f : Addr} {fd : FuncData} (F : Fun K "_law_fitted" "_law_fitted" s_l_fitted f fd) : FnOk P w K mg base (L2.CX P w) 1 f fd [Str.ofString "_law_rows"] (spD K xs 1 (runB 5 1 b_l_fitted)) :=
  fn_d F sc_l_fitted fun cdv A outer sh H E hr => by
  have tk : Takes (cxOf (L2.CX P w) P w K mg base n_l_fitted "_law_fitted" (defScope s_l_fitted) f cdv A outer sh H E) (fun cls d _ H => E cls d H) := takes_of rfl rfl rfl rfl
  have hp : PassesOwn (model P w) (A.deeper (PyProof.Rows.envOfC "_law_fitted" (defScope s_l_fitted) sh.heap.objs.size f cdv)) (PyProof.Rows.envOfC "_law_fitted" (defScope s_l_fitted) sh.heap.objs.size f cdv) (cxOf (L2.CX P w) P w K mg base n_l_fitted "_law_fitted" (defScope s_l_fitted) f cdv A outer sh H E).xe := passes_of (X := cxOf (L2.CX P w) P w K mg base n_l_fitted "_law_fitted" (defScope s_l_fitted) f cdv A outer sh H E) rfl
  exact (ss_cons (sown 1 sc_l_fitted.nd (l_lst a_nil))
    (ss_cons (s_for hp rfl (i_enumerate rfl T.b_enumerate (a_cons (dv 0) a_nil)) (g_tup rfl sc_l_fitted.nd (gc 2 (gc 3 .nil))) (b := t1_l_fitted) (ss_cons (sset 4 sc_l_fitted.nd (d_bin o_sub (d_bin o_sub (d_callB (x := "len") c_len (by rfl) T.b_len bt_len (a_cons (dv 0) a_nil)) d_int) (dv 2)))
    (ss_cons (s_if (t_cmp (o_in (u65 hr)) (d_ix (dv 3) d_int (fun _ _ => rfl)) (d_tup (a_cons d_str (a_cons d_str (a_cons d_str a_nil))))) (ss_cons (sset 3 sc_l_fitted.nd (d_ix (d_lst (a_cons (d_bin o_add (d_slice (dv 3) op_none (op_some (d_neg d_int))) (d_tup (a_cons (d_bin o_add d_int (d_bin o_mod (d_bin o_sub (d_ix (dv 3) (d_neg d_int) (fun _ _ => rfl)) d_int) (d_callB (x := "max") (c_max rfl) (by rfl) T.b_max bt_max (a_cons d_int (a_cons (dv 4) a_nil))))) a_nil))) (a_cons (d_tup (a_cons d_str a_nil)) a_nil))) (d_callT c_int (by rfl) T.b_int bt_int (a_cons (d_cmp (o_eq hr.units) (dv 4) d_int) a_nil)) (fun _ _ => rfl)))
    ss_nil) ss_nil)
    (ss_cons (sapp 1 (dv 3))
    ss_nil))))
    (ss_cons (s_frz 1 (s_ret (d_callT c_tup (by rfl) T.b_tuple bt_tuple (a_cons (dv 1) a_nil))))
    ss_nil)))
set_option maxHeartbeats 4000000 in
theorem ok_l_hand (T : Tx K w mg)   {f : Addr} {fd : FuncData} (F : Fun K "_law_hand" "_law_hand" s_l_hand f fd) : FnOk P w K mg base (L2.CX P w) 1 f fd [Str.ofString "_law_script", Str.ofString "_law_k"] (spD K xs 2 (runB 4 2 b_l_hand)) :=
  fn_d F sc_l_hand fun cdv A outer sh H E hr => by
  have tk : Takes (cxOf (L2.CX P w) P w K mg base n_l_hand "_law_hand" (defScope s_l_hand) f cdv A outer sh H E) (fun cls d _ H => E cls d H) := takes_of rfl rfl rfl rfl
  have hp : PassesOwn (model P w) (A.deeper (PyProof.Rows.envOfC "_law_hand" (defScope s_l_hand) sh.heap.objs.size f cdv)) (PyProof.Rows.envOfC "_law_hand" (defScope s_l_hand) sh.heap.objs.size f cdv) (cxOf (L2.CX P w) P w K mg base n_l_hand "_law_hand" (defScope s_l_hand) f cdv A outer sh H E).xe := passes_of (X := cxOf (L2.CX P w) P w K mg base n_l_hand "_law_hand" (defScope s_l_hand) f cdv A outer sh H E) rfl
  exact (ss_cons (sset 2 sc_l_hand.nd (d_ix (d_bin o_add (d_slice (dv 0) (op_some (dv 1)) (op_some (d_bin o_add (dv 1) d_int))) (d_lst (a_cons d_int a_nil))) d_int (fun _ _ => rfl)))
    (ss_cons (sset 3 sc_l_hand.nd (d_bin o_mod (d_bin o_mul (d_bin o_add (d_bin o_add (d_bin o_mod (dv 2) d_int) (d_bin o_mul d_int (dv 1))) d_int) d_int) d_int))
    (ss_cons (s_ret (d_refL (l_lst (a_cons (d_bin o_mul (d_callT c_int (by rfl) T.b_int bt_int (a_cons (d_cmp o_ge (dv 2) (d_bin o_pow d_int d_int)) a_nil)) (dv 2)) (a_cons (dv 3) a_nil)))))
    ss_nil)))
set_option maxHeartbeats 4000000 in
theorem ok_l_draw (T : Tx K w mg)   {f : Addr} {fd : FuncData} (F : Fun K "_law_draw" "_law_draw" s_l_draw f fd) : FnOk P w K mg base (L2.CX P w) 1 f fd [Str.ofString "_law_hand_here", Str.ofString "_law_many"] (spD K xs 2 (runB 3 2 b_l_draw)) :=
  fn_d F sc_l_draw fun cdv A outer sh H E hr => by
  have tk : Takes (cxOf (L2.CX P w) P w K mg base n_l_draw "_law_draw" (defScope s_l_draw) f cdv A outer sh H E) (fun cls d _ H => E cls d H) := takes_of rfl rfl rfl rfl
  have hp : PassesOwn (model P w) (A.deeper (PyProof.Rows.envOfC "_law_draw" (defScope s_l_draw) sh.heap.objs.size f cdv)) (PyProof.Rows.envOfC "_law_draw" (defScope s_l_draw) sh.heap.objs.size f cdv) (cxOf (L2.CX P w) P w K mg base n_l_draw "_law_draw" (defScope s_l_draw) f cdv A outer sh H E).xe := passes_of (X := cxOf (L2.CX P w) P w K mg base n_l_draw "_law_draw" (defScope s_l_draw) f cdv A outer sh H E) rfl
  exact (ss_cons (s_if (t_cmp o_gt (d_ixR (dv 0) d_int (fun _ _ => rfl)) d_int) (ss_cons (sset 2 sc_l_draw.nd (d_bin o_mod (d_ixR (dv 0) d_int (fun _ _ => rfl)) (dv 1)))
    (ss_cons (s_ixR (dv 0) d_int (d_bin o_fdiv (d_ixR (dv 0) d_int (fun _ _ => rfl)) (dv 1)))
    (ss_cons (s_ret (dv 2))
    ss_nil))) ss_nil)
    (ss_cons (s_ixR (dv 0) d_int (d_bin o_mod (d_bin o_add (d_bin o_mul (d_ixR (dv 0) d_int (fun _ _ => rfl)) d_int) d_int) d_int))
    (ss_cons (s_ret (d_bin o_mod (d_bin o_fdiv (d_bin o_mod (d_bin o_mul (d_ixR (dv 0) d_int (fun _ _ => rfl)) (d_ixR (dv 0) d_int (fun _ _ => rfl))) d_int) d_int) (dv 1)))
    ss_nil)))
set_option maxHeartbeats 4000000 in
theorem ok_l_some (T : Tx K w mg) (F_l_draw : Fn P w K mg base xs "_law_draw" 1 2 f_l_draw)  {f : Addr} {fd : FuncData} (F : Fun K "_law_some" "_law_some" s_l_some f fd) : FnOk P w K mg base (L2.CX P w) 2 f fd [Str.ofString "_law_hand_here", Str.ofString "_law_words_here", Str.ofString "_law_many"] (spD K xs 3 (runB 4 3 b_l_some)) :=
  fn_d F sc_l_some fun cdv A outer sh H E hr => by
  have tk : Takes (cxOf (L2.CX P w) P w K mg base n_l_some "_law_some" (defScope s_l_some) f cdv A outer sh H E) (fun cls d _ H => E cls d H) := takes_of rfl rfl rfl rfl
  have hp : PassesOwn (model P w) (A.deeper (PyProof.Rows.envOfC "_law_some" (defScope s_l_some) sh.heap.objs.size f cdv)) (PyProof.Rows.envOfC "_law_some" (defScope s_l_some) sh.heap.objs.size f cdv) (cxOf (L2.CX P w) P w K mg base n_l_some "_law_some" (defScope s_l_some) f cdv A outer sh H E).xe := passes_of (X := cxOf (L2.CX P w) P w K mg base n_l_some "_law_some" (defScope s_l_some) f cdv A outer sh H E) rfl
  exact (ss_cons (s_ret (d_callT c_tup (by rfl) T.b_tuple bt_tuple (a_cons (d_new (l_sorted (by rfl) T.b_sorted (d_new (l_comp (own := [("_law_word", 3)]) rfl sc_l_some.nd (i_seq (dv 1)) (blkOk_by (N := n_l_some) (sc := defScope s_l_some) (by decide +kernel)) (hvs_N (by decide)) (fun _ _ _ _ _ => (gn 3 sc_l_some.nd)) (fun _ _ _ _ _ => (ts_one (t_cmp o_lt (d_callF (x := "_law_draw") F_l_draw takes0 (hr.mono (by decide)) (by rfl) (a_cons (dv 0) (a_cons d_int a_nil))) (dv 2)))) (fun _ _ _ _ _ => (dv 3)))))) a_nil)))
    ss_nil)
set_option maxHeartbeats 4000000 in
theorem ok_l_words (T : Tx K w mg) (F_l_draw : Fn P w K mg base xs "_law_draw" 1 2 f_l_draw)  {f : Addr} {fd : FuncData} (F : Fun K "_law_words" "_law_words" s_l_words f fd) : FnOk P w K mg base (L2.CX P w) 2 f fd [Str.ofString "_law_hand_here", Str.ofString "_law_many"] (spD K xs 2 (runB 8 2 b_l_words)) :=
  fn_d F sc_l_words fun cdv A outer sh H E hr => by
  have tk : Takes (cxOf (L2.CX P w) P w K mg base n_l_words "_law_words" (defScope s_l_words) f cdv A outer sh H E) (fun cls d _ H => E cls d H) := takes_of rfl rfl rfl rfl
  have hp : PassesOwn (model P w) (A.deeper (PyProof.Rows.envOfC "_law_words" (defScope s_l_words) sh.heap.objs.size f cdv)) (PyProof.Rows.envOfC "_law_words" (defScope s_l_words) sh.heap.objs.size f cdv) (cxOf (L2.CX P w) P w K mg base n_l_words "_law_words" (defScope s_l_words) f cdv A outer sh H E).xe := passes_of (X := cxOf (L2.CX P w) P w K mg base n_l_words "_law_words" (defScope s_l_words) f cdv A outer sh H E) rfl
  exact (ss_cons (sset 2 sc_l_words.nd d_str)
    (ss_cons (sset 3 sc_l_words.nd (d_callF (x := "_law_draw") F_l_draw tk (hr.mono (by decide)) (by rfl) (a_cons (dv 0) (a_cons d_int a_nil))))
    (ss_cons (s_if (t_cmp (o_eq hr.units) (d_callF (x := "_law_draw") F_l_draw tk (hr.mono (by decide)) (by rfl) (a_cons (dv 0) (a_cons d_int a_nil))) d_int) (ss_cons (sset 5 sc_l_words.nd (d_join d_str (d_new (l_comp (own := [("_law_j", 7)]) rfl sc_l_words.nd (i_range1 rfl T.b_range (a_cons d_int a_nil)) (blkOk_by (N := n_l_words) (sc := defScope s_l_words) (by decide +kernel)) (hvs_N (by decide)) (fun _ _ _ _ _ => (gn 7 sc_l_words.nd)) (fun _ _ _ _ _ => ts_nil) (fun _ _ _ _ _ => (d_ix (dv 2) (d_bin o_mod (d_bin o_add (dv 3) (d_bin o_mul d_int (dv 7))) d_int) (fun _ _ => rfl)))))))
    (ss_cons (s_ret (d_new (l_comp (own := [("_law_k", 6)]) rfl sc_l_words.nd (i_range1 rfl T.b_range (a_cons (dv 1) a_nil)) (blkOk_by (N := n_l_words) (sc := defScope s_l_words) (by decide +kernel)) (hvs_N (by decide)) (fun _ _ _ _ _ => (gn 6 sc_l_words.nd)) (fun _ _ _ _ _ => ts_nil) (fun _ _ _ _ _ => (d_slice (dv 5) op_none (op_some (d_bin o_add d_int (dv 6))))))))
    ss_nil)) ss_nil)
    (ss_cons (sset 4 sc_l_words.nd (d_ix (d_lst (a_cons d_str (a_cons d_str (a_cons d_str (a_cons d_str a_nil))))) (d_callF (x := "_law_draw") F_l_draw tk (hr.mono (by decide)) (by rfl) (a_cons (dv 0) (a_cons d_int a_nil))) (fun _ _ => rfl)))
    (ss_cons (s_ret (d_new (l_comp (own := [("_law_k", 6)]) rfl sc_l_words.nd (i_range1 rfl T.b_range (a_cons (dv 1) a_nil)) (blkOk_by (N := n_l_words) (sc := defScope s_l_words) (by decide +kernel)) (hvs_N (by decide)) (fun _ _ _ _ _ => (gn 6 sc_l_words.nd)) (fun _ _ _ _ _ => ts_nil) (fun _ _ _ _ _ => (d_bin o_add (d_ix (dv 2) (d_bin o_mod (d_bin o_add (dv 3) (d_bin o_mul d_int (dv 6))) d_int) (fun _ _ => rfl)) (dv 4))))))
    ss_nil)))))
set_option maxHeartbeats 4000000 in
theorem ok_l_heads (T : Tx K w mg) (F_l_draw : Fn P w K mg base xs "_law_draw" 1 2 f_l_draw) (F_l_hand : Fn P w K mg base xs "_law_hand" 1 2 f_l_hand) (F_l_some : Fn P w K mg base xs "_law_some" 2 3 f_l_some) (F_l_words : Fn P w K mg base xs "_law_words" 2 2 f_l_words)  {f : Addr} {fd : FuncData} (F : Fun K "_law_heads" "_law_heads" s_l_heads f fd) : FnOk P w K mg base (L2.CX P w) 3 f fd [Str.ofString "_law_script", Str.ofString "_law_most"] (spD K xs 2 (runB 11 2 b_l_heads)) :=
  fn_d F sc_l_heads fun cdv A outer sh H E hr => by
  have tk : Takes (cxOf (L2.CX P w) P w K mg base n_l_heads "_law_heads" (defScope s_l_heads) f cdv A outer sh H E) (fun cls d _ H => E cls d H) := takes_of rfl rfl rfl rfl
  have hp : PassesOwn (model P w) (A.deeper (PyProof.Rows.envOfC "_law_heads" (defScope s_l_heads) sh.heap.objs.size f cdv)) (PyProof.Rows.envOfC "_law_heads" (defScope s_l_heads) sh.heap.objs.size f cdv) (cxOf (L2.CX P w) P w K mg base n_l_heads "_law_heads" (defScope s_l_heads) f cdv A outer sh H E).xe := passes_of (X := cxOf (L2.CX P w) P w K mg base n_l_heads "_law_heads" (defScope s_l_heads) f cdv A outer sh H E) rfl
  exact (ss_cons (sset 2 sc_l_heads.nd (d_callF (x := "_law_hand") F_l_hand tk (hr.mono (by decide)) (by rfl) (a_cons (dv 0) (a_cons d_int a_nil))))
    (ss_cons (sset 3 sc_l_heads.nd (d_bin o_add d_int (d_callF (x := "_law_draw") F_l_draw tk (hr.mono (by decide)) (by rfl) (a_cons (dv 2) (a_cons (dv 1) a_nil)))))
    (ss_cons (sset 4 sc_l_heads.nd (d_callF (x := "_law_words") F_l_words tk (hr.mono (by decide)) (by rfl) (a_cons (dv 2) (a_cons (dv 3) a_nil))))
    (ss_cons (sset 5 sc_l_heads.nd (d_callF (x := "_law_words") F_l_words tk (hr.mono (by decide)) (by rfl) (a_cons (dv 2) (a_cons (d_bin o_add d_int (d_callF (x := "_law_draw") F_l_draw tk (hr.mono (by decide)) (by rfl) (a_cons (dv 2) (a_cons d_int a_nil)))) a_nil))))
    (ss_cons (sset 6 sc_l_heads.nd (d_callF (x := "_law_words") F_l_words tk (hr.mono (by decide)) (by rfl) (a_cons (dv 2) (a_cons d_int a_nil))))
    (ss_cons (sown 7 sc_l_heads.nd (l_lst a_nil))
    (ss_cons (s_for hp rfl (i_seq (dv 4)) (gn 8 sc_l_heads.nd) (b := t1_l_heads) (ss_cons (sset 9 sc_l_heads.nd (d_callF (x := "_law_draw") F_l_draw tk (hr.mono (by decide)) (by rfl) (a_cons (dv 2) (a_cons d_int a_nil))))
    (ss_cons (sset 10 sc_l_heads.nd (d_callT c_tup (by rfl) T.b_tuple bt_tuple (a_cons (d_slice (d_bin o_add (dv 6) (dv 6)) (op_some (dv 9)) (op_some (d_bin o_add (dv 9) (d_callF (x := "_law_draw") F_l_draw tk (hr.mono (by decide)) (by rfl) (a_cons (dv 2) (a_cons d_int a_nil)))))) a_nil)))
    (ss_cons (sapp 7 (d_tup (a_cons (dv 8) (a_cons (d_callF (x := "_law_some") F_l_some tk (hr.mono (by decide)) (by rfl) (a_cons (dv 2) (a_cons (dv 5) (a_cons d_int a_nil)))) (a_cons (dv 10) a_nil)))))
    ss_nil))))
    (ss_cons (s_frz 7 (s_ret (d_tup (a_cons (dv 7) (a_cons (dv 5) (a_cons (dv 6) a_nil))))))
    ss_nil))))))))
set_option maxHeartbeats 4000000 in
theorem ok_l_args (T : Tx K w mg) (F_l_draw : Fn P w K mg base xs "_law_draw" 1 2 f_l_draw)  {f : Addr} {fd : FuncData} (F : Fun K "_law_args" "_law_args" s_l_args f fd) : FnOk P w K mg base (L2.CX P w) 2 f fd [Str.ofString "_law_hand_here", Str.ofString "_law_pool", Str.ofString "_law_many"] (spD K xs 3 (runB 4 3 b_l_args)) :=
  fn_d F sc_l_args fun cdv A outer sh H E hr => by
  have tk : Takes (cxOf (L2.CX P w) P w K mg base n_l_args "_law_args" (defScope s_l_args) f cdv A outer sh H E) (fun cls d _ H => E cls d H) := takes_of rfl rfl rfl rfl
  have hp : PassesOwn (model P w) (A.deeper (PyProof.Rows.envOfC "_law_args" (defScope s_l_args) sh.heap.objs.size f cdv)) (PyProof.Rows.envOfC "_law_args" (defScope s_l_args) sh.heap.objs.size f cdv) (cxOf (L2.CX P w) P w K mg base n_l_args "_law_args" (defScope s_l_args) f cdv A outer sh H E).xe := passes_of (X := cxOf (L2.CX P w) P w K mg base n_l_args "_law_args" (defScope s_l_args) f cdv A outer sh H E) rfl
  exact (ss_cons (s_ret (d_callT c_tup (by rfl) T.b_tuple bt_tuple (a_cons (d_new (l_comp (own := [("_law_k", 3)]) rfl sc_l_args.nd (i_range1 rfl T.b_range (a_cons (dv 2) a_nil)) (blkOk_by (N := n_l_args) (sc := defScope s_l_args) (by decide +kernel)) (hvs_N (by decide)) (fun _ _ _ _ _ => (gn 3 sc_l_args.nd)) (fun _ _ _ _ _ => ts_nil) (fun _ _ _ _ _ => (d_ix (dv 1) (d_callF (x := "_law_draw") F_l_draw takes0 (hr.mono (by decide)) (by rfl) (a_cons (dv 0) (a_cons d_int a_nil))) (fun _ _ => rfl))))) a_nil)))
    ss_nil)
set_option maxHeartbeats 4000000 in
theorem ok_l_pair (T : Tx K w mg) (F_l_args : Fn P w K mg base xs "_law_args" 2 3 f_l_args) (F_l_draw : Fn P w K mg base xs "_law_draw" 1 2 f_l_draw) (F_l_some : Fn P w K mg base xs "_law_some" 2 3 f_l_some)  {f : Addr} {fd : FuncData} (F : Fun K "_law_pair" "_law_pair" s_l_pair f fd) : FnOk P w K mg base (L2.CX P w) 3 f fd [Str.ofString "_law_hand_here", Str.ofString "_law_kit"] (spD K xs 2 (runB 14 2 b_l_pair)) :=
  fn_d F sc_l_pair fun cdv A outer sh H E hr => by
  have tk : Takes (cxOf (L2.CX P w) P w K mg base n_l_pair "_law_pair" (defScope s_l_pair) f cdv A outer sh H E) (fun cls d _ H => E cls d H) := takes_of rfl rfl rfl rfl
  have hp : PassesOwn (model P w) (A.deeper (PyProof.Rows.envOfC "_law_pair" (defScope s_l_pair) sh.heap.objs.size f cdv)) (PyProof.Rows.envOfC "_law_pair" (defScope s_l_pair) sh.heap.objs.size f cdv) (cxOf (L2.CX P w) P w K mg base n_l_pair "_law_pair" (defScope s_l_pair) f cdv A outer sh H E).xe := passes_of (X := cxOf (L2.CX P w) P w K mg base n_l_pair "_law_pair" (defScope s_l_pair) f cdv A outer sh H E) rfl
  exact (ss_cons (s_unp (dv 1) (g_any rfl sc_l_pair.nd (gc 8 (gc 9 (gc 10 .nil)))))
    (ss_cons (s_unp (d_ix (dv 8) (d_callF (x := "_law_draw") F_l_draw tk (hr.mono (by decide)) (by rfl) (a_cons (dv 0) (a_cons (d_callB (x := "len") c_len (by rfl) T.b_len bt_len (a_cons (dv 8) a_nil)) a_nil))) (fun _ _ => rfl)) (g_any rfl sc_l_pair.nd (gc 11 (gc 12 (gc 13 .nil)))))
    (ss_cons (sset 2 sc_l_pair.nd (d_callF (x := "_law_draw") F_l_draw tk (hr.mono (by decide)) (by rfl) (a_cons (dv 0) (a_cons (d_bin o_add (d_callB (x := "len") c_len (by rfl) T.b_len bt_len (a_cons (dv 13) a_nil)) d_int) a_nil))))
    (ss_cons (sset 3 sc_l_pair.nd (d_callB (x := "max") (c_max rfl) (by rfl) T.b_max bt_max (a_cons d_int (a_cons (d_bin o_sub (d_bin o_sub (d_callB (x := "len") c_len (by rfl) T.b_len bt_len (a_cons (dv 13) a_nil)) (dv 2)) (d_callT c_int (by rfl) T.b_int bt_int (a_cons (d_cmp (o_eq hr.units) (d_callF (x := "_law_draw") F_l_draw tk (hr.mono (by decide)) (by rfl) (a_cons (dv 0) (a_cons d_int a_nil))) d_int) a_nil))) a_nil))))
    (ss_cons (sset 4 sc_l_pair.nd (d_ix (dv 10) (d_callF (x := "_law_draw") F_l_draw tk (hr.mono (by decide)) (by rfl) (a_cons (dv 0) (a_cons d_int a_nil))) (fun _ _ => rfl)))
    (ss_cons (s_if (t_cmp (o_eq hr.units) (d_callF (x := "_law_draw") F_l_draw tk (hr.mono (by decide)) (by rfl) (a_cons (dv 0) (a_cons d_int a_nil))) d_int) (ss_cons (sset 11 sc_l_pair.nd d_str)
    ss_nil) ss_nil)
    (ss_cons (sset 5 sc_l_pair.nd (d_tup (a_cons d_str (a_cons (dv 4) (a_cons (dv 11) (a_cons (d_callF (x := "_law_args") F_l_args tk (hr.mono (by decide)) (by rfl) (a_cons (dv 0) (a_cons (dv 10) (a_cons (dv 2) a_nil)))) a_nil))))))
    (ss_cons (sset 6 sc_l_pair.nd (d_callF (x := "_law_args") F_l_args tk (hr.mono (by decide)) (by rfl) (a_cons (dv 0) (a_cons (dv 10) (a_cons (dv 3) a_nil)))))
    (ss_cons (sset 7 sc_l_pair.nd (d_callF (x := "_law_some") F_l_some tk (hr.mono (by decide)) (by rfl) (a_cons (dv 0) (a_cons (dv 9) (a_cons d_int a_nil)))))
    (ss_cons (s_if (t_cmp (o_eq hr.units) (d_callF (x := "_law_draw") F_l_draw tk (hr.mono (by decide)) (by rfl) (a_cons (dv 0) (a_cons d_int a_nil))) d_int) (ss_cons (s_ret (d_lst (a_cons (d_tup (a_cons d_str (a_cons (d_ix (dv 10) (d_callF (x := "_law_draw") F_l_draw tk (hr.mono (by decide)) (by rfl) (a_cons (dv 0) (a_cons d_int a_nil))) (fun _ _ => rfl)) (a_cons d_int a_nil)))) (a_cons (dv 5) (a_cons (d_tup (a_cons d_str (a_cons (dv 4) (a_cons (dv 6) (a_cons (dv 7) a_nil))))) a_nil)))))
    ss_nil) ss_nil)
    (ss_cons (s_ret (d_lst (a_cons (dv 5) (a_cons (d_tup (a_cons d_str (a_cons (d_ix (dv 10) (d_callF (x := "_law_draw") F_l_draw tk (hr.mono (by decide)) (by rfl) (a_cons (dv 0) (a_cons d_int a_nil))) (fun _ _ => rfl)) (a_cons (dv 4) (a_cons (dv 6) (a_cons (dv 7) a_nil)))))) a_nil))))
    ss_nil)))))))))))
set_option maxHeartbeats 4000000 in
theorem ok_l_number (T : Tx K w mg) (F_l_draw : Fn P w K mg base xs "_law_draw" 1 2 f_l_draw)  {f : Addr} {fd : FuncData} (F : Fun K "_law_number" "_law_number" s_l_number f fd) : FnOk P w K mg base (L2.CX P w) 2 f fd [Str.ofString "_law_hand_here"] (spD K xs 1 (runB 1 1 b_l_number)) :=
  fn_d F sc_l_number fun cdv A outer sh H E hr => by
  have tk : Takes (cxOf (L2.CX P w) P w K mg base n_l_number "_law_number" (defScope s_l_number) f cdv A outer sh H E) (fun cls d _ H => E cls d H) := takes_of rfl rfl rfl rfl
  have hp : PassesOwn (model P w) (A.deeper (PyProof.Rows.envOfC "_law_number" (defScope s_l_number) sh.heap.objs.size f cdv)) (PyProof.Rows.envOfC "_law_number" (defScope s_l_number) sh.heap.objs.size f cdv) (cxOf (L2.CX P w) P w K mg base n_l_number "_law_number" (defScope s_l_number) f cdv A outer sh H E).xe := passes_of (X := cxOf (L2.CX P w) P w K mg base n_l_number "_law_number" (defScope s_l_number) f cdv A outer sh H E) rfl
  exact (ss_cons (s_ret (d_ix (d_lst (a_cons d_int (a_cons d_int (a_cons (d_bin o_sub (d_callF (x := "_law_draw") F_l_draw tk (hr.mono (by decide)) (by rfl) (a_cons (dv 0) (a_cons d_int a_nil))) d_int) (a_cons (d_bin o_sub (d_bin o_pow d_int d_int) (d_callF (x := "_law_draw") F_l_draw tk (hr.mono (by decide)) (by rfl) (a_cons (dv 0) (a_cons d_int a_nil)))) (a_cons (d_bin o_sub d_int (d_bin o_pow d_int d_int)) a_nil)))))) (d_callF (x := "_law_draw") F_l_draw tk (hr.mono (by decide)) (by rfl) (a_cons (dv 0) (a_cons d_int a_nil))) (fun _ _ => rfl)))
    ss_nil)
set_option maxHeartbeats 4000000 in
theorem ok_l_plain (T : Tx K w mg) (F_l_args : Fn P w K mg base xs "_law_args" 2 3 f_l_args) (F_l_draw : Fn P w K mg base xs "_law_draw" 1 2 f_l_draw) (F_l_number : Fn P w K mg base xs "_law_number" 2 1 f_l_number)  {f : Addr} {fd : FuncData} (F : Fun K "_law_plain" "_law_plain" s_l_plain f fd) : FnOk P w K mg base (L2.CX P w) 3 f fd [Str.ofString "_law_hand_here", Str.ofString "_law_kit", Str.ofString "_law_way"] (spD K xs 3 (runB 12 3 b_l_plain)) :=
  fn_d F sc_l_plain fun cdv A outer sh H E hr => by
  have tk : Takes (cxOf (L2.CX P w) P w K mg base n_l_plain "_law_plain" (defScope s_l_plain) f cdv A outer sh H E) (fun cls d _ H => E cls d H) := takes_of rfl rfl rfl rfl
  have hp : PassesOwn (model P w) (A.deeper (PyProof.Rows.envOfC "_law_plain" (defScope s_l_plain) sh.heap.objs.size f cdv)) (PyProof.Rows.envOfC "_law_plain" (defScope s_l_plain) sh.heap.objs.size f cdv) (cxOf (L2.CX P w) P w K mg base n_l_plain "_law_plain" (defScope s_l_plain) f cdv A outer sh H E).xe := passes_of (X := cxOf (L2.CX P w) P w K mg base n_l_plain "_law_plain" (defScope s_l_plain) f cdv A outer sh H E) rfl
  exact (ss_cons (s_unp (dv 1) (g_any rfl sc_l_plain.nd (gc 3 (gc 4 (gc 5 .nil)))))
    (ss_cons (s_unp (d_callF (x := "_law_args") F_l_args tk (hr.mono (by decide)) (by rfl) (a_cons (dv 0) (a_cons (dv 5) (a_cons d_int a_nil)))) (g_any rfl sc_l_plain.nd (gc 6 (gc 7 (gc 8 .nil)))))
    (ss_cons (s_if (t_cmp (o_eq hr.units) (dv 2) d_int) (ss_cons (s_ret (d_lst (a_cons (d_tup (a_cons d_str (a_cons (dv 6) (a_cons (d_callF (x := "_law_number") F_l_number tk (hr.mono (by decide)) (by rfl) (a_cons (dv 0) a_nil)) a_nil)))) a_nil)))
    ss_nil) ss_nil)
    (ss_cons (s_if (t_cmp (o_eq hr.units) (dv 2) d_int) (ss_cons (s_ret (d_lst (a_cons (d_tup (a_cons d_str (a_cons (dv 6) (a_cons (dv 7) a_nil)))) a_nil)))
    ss_nil) ss_nil)
    (ss_cons (s_if (t_cmp (o_eq hr.units) (dv 2) d_int) (ss_cons (s_ret (d_lst (a_cons (d_tup (a_cons (d_ix (d_lst (a_cons d_str (a_cons d_str a_nil))) (d_callF (x := "_law_draw") F_l_draw tk (hr.mono (by decide)) (by rfl) (a_cons (dv 0) (a_cons d_int a_nil))) (fun _ _ => rfl)) (a_cons (dv 6) (a_cons (dv 7) (a_cons (dv 8) a_nil))))) a_nil)))
    ss_nil) ss_nil)
    (ss_cons (s_if (t_cmp (o_eq hr.units) (dv 2) d_int) (ss_cons (sset 9 sc_l_plain.nd (d_ix (d_ix (d_bin o_add (dv 3) (d_lst (a_cons (d_tup (a_cons d_str (a_cons (d_tup a_nil) (a_cons (d_tup a_nil) a_nil)))) a_nil))) (d_callF (x := "_law_draw") F_l_draw tk (hr.mono (by decide)) (by rfl) (a_cons (dv 0) (a_cons (d_bin o_add (d_callB (x := "len") c_len (by rfl) T.b_len bt_len (a_cons (dv 3) a_nil)) d_int) a_nil))) (fun _ _ => rfl)) d_int (fun _ _ => rfl)))
    (ss_cons (s_ret (d_lst (a_cons (d_tup (a_cons d_str (a_cons (dv 6) (a_cons (dv 9) (a_cons (d_callF (x := "_law_args") F_l_args tk (hr.mono (by decide)) (by rfl) (a_cons (dv 0) (a_cons (dv 5) (a_cons (d_callF (x := "_law_draw") F_l_draw tk (hr.mono (by decide)) (by rfl) (a_cons (dv 0) (a_cons d_int a_nil))) a_nil)))) a_nil))))) a_nil)))
    ss_nil)) ss_nil)
    (ss_cons (s_if (t_cmp (o_eq hr.units) (dv 2) d_int) (ss_cons (sset 10 sc_l_plain.nd (d_ix (dv 5) (d_callF (x := "_law_draw") F_l_draw tk (hr.mono (by decide)) (by rfl) (a_cons (dv 0) (a_cons d_int a_nil))) (fun _ _ => rfl)))
    (ss_cons (s_ret (d_lst (a_cons (d_ix (d_lst (a_cons (d_tup (a_cons d_str (a_cons (dv 10) (a_cons (dv 6) a_nil)))) (a_cons (d_tup (a_cons d_str (a_cons (dv 6) (a_cons (dv 10) a_nil)))) a_nil))) (d_callF (x := "_law_draw") F_l_draw tk (hr.mono (by decide)) (by rfl) (a_cons (dv 0) (a_cons d_int a_nil))) (fun _ _ => rfl)) a_nil)))
    ss_nil)) ss_nil)
    (ss_cons (s_if (t_cmp (o_eq hr.units) (dv 2) d_int) (ss_cons (sset 11 sc_l_plain.nd (d_bin o_add d_int (d_callF (x := "_law_draw") F_l_draw tk (hr.mono (by decide)) (by rfl) (a_cons (dv 0) (a_cons d_int a_nil)))))
    (ss_cons (s_ret (d_lst (a_cons (d_ix (d_lst (a_cons (d_tup (a_cons d_str (a_cons (dv 6) (a_cons (dv 11) a_nil)))) (a_cons (d_tup (a_cons d_str (a_cons (dv 11) a_nil))) (a_cons (d_tup (a_cons d_str a_nil)) (a_cons (d_tup (a_cons d_str a_nil)) a_nil))))) (d_callF (x := "_law_draw") F_l_draw tk (hr.mono (by decide)) (by rfl) (a_cons (dv 0) (a_cons d_int a_nil))) (fun _ _ => rfl)) a_nil)))
    ss_nil)) ss_nil)
    (ss_cons (s_ret (d_lst (a_cons (d_tup (a_cons d_str (a_cons (dv 6) (a_cons d_int a_nil)))) (a_cons (d_tup (a_cons d_str (a_cons (dv 7) a_nil))) a_nil))))
    ss_nil)))))))))
set_option maxHeartbeats 4000000 in
theorem ok_l_more (T : Tx K w mg) (F_l_args : Fn P w K mg base xs "_law_args" 2 3 f_l_args) (F_l_draw : Fn P w K mg base xs "_law_draw" 1 2 f_l_draw) (F_l_pair : Fn P w K mg base xs "_law_pair" 3 2 f_l_pair) (F_l_plain : Fn P w K mg base xs "_law_plain" 3 3 f_l_plain) (F_l_some : Fn P w K mg base xs "_law_some" 2 3 f_l_some)  {f : Addr} {fd : FuncData} (F : Fun K "_law_more" "_law_more" s_l_more f fd) : FnOk P w K mg base (L2.CX P w) 4 f fd [Str.ofString "_law_hand_here", Str.ofString "_law_kit"] (spD K xs 2 (runB 9 2 b_l_more)) :=
  fn_d F sc_l_more fun cdv A outer sh H E hr => by
  have tk : Takes (cxOf (L2.CX P w) P w K mg base n_l_more "_law_more" (defScope s_l_more) f cdv A outer sh H E) (fun cls d _ H => E cls d H) := takes_of rfl rfl rfl rfl
  have hp : PassesOwn (model P w) (A.deeper (PyProof.Rows.envOfC "_law_more" (defScope s_l_more) sh.heap.objs.size f cdv)) (PyProof.Rows.envOfC "_law_more" (defScope s_l_more) sh.heap.objs.size f cdv) (cxOf (L2.CX P w) P w K mg base n_l_more "_law_more" (defScope s_l_more) f cdv A outer sh H E).xe := passes_of (X := cxOf (L2.CX P w) P w K mg base n_l_more "_law_more" (defScope s_l_more) f cdv A outer sh H E) rfl
  exact (ss_cons (s_unp (dv 1) (g_any rfl sc_l_more.nd (gc 4 (gc 5 (gc 6 .nil)))))
    (ss_cons (sset 2 sc_l_more.nd (d_callF (x := "_law_draw") F_l_draw tk (hr.mono (by decide)) (by rfl) (a_cons (dv 0) (a_cons d_int a_nil))))
    (ss_cons (sset 3 sc_l_more.nd (d_ix (dv 5) (d_callF (x := "_law_draw") F_l_draw tk (hr.mono (by decide)) (by rfl) (a_cons (dv 0) (a_cons (d_callB (x := "len") c_len (by rfl) T.b_len bt_len (a_cons (dv 5) a_nil)) a_nil))) (fun _ _ => rfl)))
    (ss_cons (s_if (t_cmp o_lt (dv 2) d_int) (ss_cons (s_ret (d_callF (x := "_law_plain") F_l_plain tk (hr.mono (by decide)) (by rfl) (a_cons (dv 0) (a_cons (dv 1) (a_cons (dv 2) a_nil)))))
    ss_nil) ss_nil)
    (ss_cons (s_if (t_cmp o_lt (dv 2) d_int) (ss_cons (s_ret (d_callF (x := "_law_pair") F_l_pair tk (hr.mono (by decide)) (by rfl) (a_cons (dv 0) (a_cons (dv 1) a_nil))))
    ss_nil) ss_nil)
    (ss_cons (s_if (t_cmp (o_eq hr.units) (dv 2) d_int) (ss_cons (s_unp (d_callF (x := "_law_args") F_l_args tk (hr.mono (by decide)) (by rfl) (a_cons (dv 0) (a_cons (dv 6) (a_cons d_int a_nil)))) (g_any rfl sc_l_more.nd (gc 7 (gc 8 .nil))))
    (ss_cons (s_ret (d_lst (a_cons (d_tup (a_cons d_str (a_cons (dv 7) (a_cons (dv 8) (a_cons (d_callF (x := "_law_args") F_l_args tk (hr.mono (by decide)) (by rfl) (a_cons (dv 0) (a_cons (dv 6) (a_cons (d_callF (x := "_law_draw") F_l_draw tk (hr.mono (by decide)) (by rfl) (a_cons (dv 0) (a_cons d_int a_nil))) a_nil)))) (a_cons (d_callF (x := "_law_some") F_l_some tk (hr.mono (by decide)) (by rfl) (a_cons (dv 0) (a_cons (dv 5) (a_cons d_int a_nil)))) a_nil)))))) a_nil)))
    ss_nil)) ss_nil)
    (ss_cons (s_if (t_cmp o_lt (dv 2) d_int) (ss_cons (s_ret (d_lst (a_cons (d_tup (a_cons d_str (a_cons (dv 3) (a_cons (d_bin o_add d_int (d_callF (x := "_law_draw") F_l_draw tk (hr.mono (by decide)) (by rfl) (a_cons (dv 0) (a_cons d_int a_nil)))) a_nil)))) a_nil)))
    ss_nil) ss_nil)
    (ss_cons (s_ret (d_lst (a_cons (d_tup (a_cons (d_ix (d_lst (a_cons d_str (a_cons d_str a_nil))) (d_bin o_sub (dv 2) d_int) (fun _ _ => rfl)) (a_cons (dv 3) (a_cons (d_ix (dv 6) (d_callF (x := "_law_draw") F_l_draw tk (hr.mono (by decide)) (by rfl) (a_cons (dv 0) (a_cons d_int a_nil))) (fun _ _ => rfl)) a_nil)))) a_nil)))
    ss_nil))))))))
set_option maxHeartbeats 4000000 in
theorem ok_l_book (T : Tx K w mg) (F_l_fitted : Fn P w K mg base xs "_law_fitted" 1 1 f_l_fitted) (F_l_hand : Fn P w K mg base xs "_law_hand" 1 2 f_l_hand) (F_l_heads : Fn P w K mg base xs "_law_heads" 3 2 f_l_heads) (F_l_more : Fn P w K mg base xs "_law_more" 4 2 f_l_more)  {f : Addr} {fd : FuncData} (F : Fun K "_law_book" "_law_book" s_l_book f fd) : FnOk P w K mg base (L2.CX P w) 5 f fd [Str.ofString "_law_script", Str.ofString "_law_most", Str.ofString "_law_first"] (spD K xs 3 (runB 10 3 b_l_book)) :=
  fn_d F sc_l_book fun cdv A outer sh H E hr => by
  have tk : Takes (cxOf (L2.CX P w) P w K mg base n_l_book "_law_book" (defScope s_l_book) f cdv A outer sh H E) (fun cls d _ H => E cls d H) := takes_of rfl rfl rfl rfl
  have hp : PassesOwn (model P w) (A.deeper (PyProof.Rows.envOfC "_law_book" (defScope s_l_book) sh.heap.objs.size f cdv)) (PyProof.Rows.envOfC "_law_book" (defScope s_l_book) sh.heap.objs.size f cdv) (cxOf (L2.CX P w) P w K mg base n_l_book "_law_book" (defScope s_l_book) f cdv A outer sh H E).xe := passes_of (X := cxOf (L2.CX P w) P w K mg base n_l_book "_law_book" (defScope s_l_book) f cdv A outer sh H E) rfl
  exact (ss_cons (sset 3 sc_l_book.nd (d_callF (x := "_law_heads") F_l_heads tk (hr.mono (by decide)) (by rfl) (a_cons (dv 0) (a_cons (dv 1) a_nil))))
    (ss_cons (s_setLcV (own := [("_law_head", 9)]) rfl sc_l_book.nd (i := 4) rfl rfl (sw_true rfl rfl rfl (by decide +kernel)) (i_seq (d_ix (dv 3) d_int (fun _ _ => rfl))) (blkOk_by (N := n_l_book) (sc := defScope s_l_book) (by decide +kernel)) (hvs_N (by decide)) (fun _ _ _ _ _ => (gn 9 sc_l_book.nd)) (fun _ _ _ _ _ => ts_nil) (fun _ _ _ _ _ => (d_refL (l_lst a_nil))))
    (ss_cons (s_for hp rfl (i_range2 rfl T.b_range (a_cons (dv 2) (a_cons (d_callB (x := "max") (c_max rfl) (by rfl) T.b_max bt_max (a_cons (d_bin o_add (dv 2) d_int) (a_cons (d_callB (x := "min") (c_min rfl) (by rfl) T.b_min bt_min (a_cons (d_callB (x := "len") c_len (by rfl) T.b_len bt_len (a_cons (dv 0) a_nil)) (a_cons d_int a_nil))) a_nil))) a_nil))) (gn 5 sc_l_book.nd) (b := t1_l_book) (ss_cons (sset 7 sc_l_book.nd (d_callF (x := "_law_more") F_l_more tk (hr.mono (by decide)) (by rfl) (a_cons (d_callF (x := "_law_hand") F_l_hand tk (hr.mono (by decide)) (by rfl) (a_cons (dv 0) (a_cons (dv 5) a_nil))) (a_cons (dv 3) a_nil))))
    (ss_cons (sset 8 sc_l_book.nd (d_ix (dv 4) (d_bin o_mod (d_bin o_sub (dv 5) (dv 2)) (d_callB (x := "len") c_len (by rfl) T.b_len bt_len (a_cons (dv 4) a_nil))) (fun _ _ => rfl)))
    (ss_cons (s_if (t_cmp o_lt (d_bin o_add (d_lenR (by rfl) T.b_len (dv 8)) (d_callB (x := "len") c_len (by rfl) T.b_len bt_len (a_cons (dv 7) a_nil))) d_int) (ss_cons (s_extR (dv 8) (dv 7))
    ss_nil) ss_nil)
    ss_nil))))
    (ss_cons (sown 6 sc_l_book.nd (l_lst a_nil))
    (ss_cons (s_for hp rfl (i_zip rfl T.b_zip (a_cons (d_ix (dv 3) d_int (fun _ _ => rfl)) (a_cons (dv 4) a_nil))) (g_tup rfl sc_l_book.nd (gc 9 (gc 8 .nil))) (b := t2_l_book) (ss_cons (sapp 6 (d_bin o_add (dv 9) (d_tup (a_cons (d_callF (x := "_law_fitted") F_l_fitted tk (hr.mono (by decide)) (by rfl) (a_cons (d_new (l_catR (dv 8) (d_lst (a_cons (d_tup (a_cons d_str a_nil)) a_nil)))) a_nil)) a_nil))))
    ss_nil))
    (ss_cons (s_frz 6 (s_ret (d_tup (a_cons (dv 6) (a_cons (d_ix (dv 3) d_int (fun _ _ => rfl)) (a_cons (d_ix (dv 3) d_int (fun _ _ => rfl)) a_nil))))))
    ss_nil))))))
set_option maxHeartbeats 4000000 in
theorem ok_l_row_text (T : Tx K w mg)   {f : Addr} {fd : FuncData} (F : Fun K "_law_row_text" "_law_row_text" s_l_row_text f fd) : FnOk P w K mg base (L2.CX P w) 1 f fd [Str.ofString "_law_row"] (spD K xs 1 (runB 4 1 b_l_row_text)) :=
  fn_d F sc_l_row_text fun cdv A outer sh H E hr => by
  have tk : Takes (cxOf (L2.CX P w) P w K mg base n_l_row_text "_law_row_text" (defScope s_l_row_text) f cdv A outer sh H E) (fun cls d _ H => E cls d H) := takes_of rfl rfl rfl rfl
  have hp : PassesOwn (model P w) (A.deeper (PyProof.Rows.envOfC "_law_row_text" (defScope s_l_row_text) sh.heap.objs.size f cdv)) (PyProof.Rows.envOfC "_law_row_text" (defScope s_l_row_text) sh.heap.objs.size f cdv) (cxOf (L2.CX P w) P w K mg base n_l_row_text "_law_row_text" (defScope s_l_row_text) f cdv A outer sh H E).xe := passes_of (X := cxOf (L2.CX P w) P w K mg base n_l_row_text "_law_row_text" (defScope s_l_row_text) f cdv A outer sh H E) rfl
  exact (ss_cons (sown 1 sc_l_row_text.nd (l_lst (a_cons (d_ix (dv 0) d_int (fun _ _ => rfl)) a_nil)))
    (ss_cons (s_for hp rfl (i_enumerate rfl T.b_enumerate (a_cons (d_slice (dv 0) (op_some d_int) op_none) a_nil)) (g_tup rfl sc_l_row_text.nd (gc 2 (gc 3 .nil))) (b := t1_l_row_text) (ss_cons (s_if (PW.pt (w_and (t_cmp (o_in (u65 hr)) (d_ix (dv 0) d_int (fun _ _ => rfl)) (d_tup (a_cons d_str (a_cons d_str a_nil)))) (w_and1 (t_cmp (o_eq hr.units) (dv 2) (d_bin o_sub (d_callB (x := "len") c_len (by rfl) T.b_len bt_len (a_cons (dv 0) a_nil)) d_int))))) (ss_cons (sapp 1 d_str)
    ss_nil) ss_nil)
    (ss_cons (sext 1 (d_ifE (t_val (d_callB (x := "isinstance") c_isi (by rfl) T.b_isinstance bt_isinstance (a_cons (dv 3) (a_cons (d_ty (by rfl) T.b_tuple bt_tuple) a_nil)))) (dv 3) (d_lst (a_cons (d_callT c_str (by rfl) T.b_str bt_str (a_cons (dv 3) a_nil)) a_nil))))
    ss_nil)))
    (ss_cons (s_frz 1 (s_ret (d_join d_str (dv 1))))
    ss_nil)))
set_option maxHeartbeats 4000000 in
theorem ok_l_piece_text (T : Tx K w mg) (F_l_row_text : Fn P w K mg base xs "_law_row_text" 1 1 f_l_row_text)  {f : Addr} {fd : FuncData} (F : Fun K "_law_piece_text" "_law_piece_text" s_l_piece_text f fd) : FnOk P w K mg base (L2.CX P w) 2 f fd [Str.ofString "_law_piece"] (spD K xs 1 (runB 7 1 b_l_piece_text)) :=
  fn_d F sc_l_piece_text fun cdv A outer sh H E hr => by
  have tk : Takes (cxOf (L2.CX P w) P w K mg base n_l_piece_text "_law_piece_text" (defScope s_l_piece_text) f cdv A outer sh H E) (fun cls d _ H => E cls d H) := takes_of rfl rfl rfl rfl
  have hp : PassesOwn (model P w) (A.deeper (PyProof.Rows.envOfC "_law_piece_text" (defScope s_l_piece_text) sh.heap.objs.size f cdv)) (PyProof.Rows.envOfC "_law_piece_text" (defScope s_l_piece_text) sh.heap.objs.size f cdv) (cxOf (L2.CX P w) P w K mg base n_l_piece_text "_law_piece_text" (defScope s_l_piece_text) f cdv A outer sh H E).xe := passes_of (X := cxOf (L2.CX P w) P w K mg base n_l_piece_text "_law_piece_text" (defScope s_l_piece_text) f cdv A outer sh H E) rfl
  exact (ss_cons (s_unp (dv 0) (g_any rfl sc_l_piece_text.nd (gc 2 (gc 3 (gc 4 (gc 5 .nil))))))
    (ss_cons (sset 1 sc_l_piece_text.nd (d_join d_str (d_bin o_add (d_bin o_add (d_bin o_add (d_lst (a_cons d_str (a_cons (dv 2) a_nil))) (d_new (l_list rfl rfl T.b_list (a_cons (dv 4) a_nil)))) (d_lst (a_cons d_str a_nil))) (d_new (l_list rfl rfl T.b_list (a_cons (dv 3) a_nil))))))
    (ss_cons (s_ret (d_join d_str (d_bin o_add (d_lst (a_cons (dv 1) a_nil)) (d_new (l_comp (own := [("_law_row", 6)]) rfl sc_l_piece_text.nd (i_seq (dv 5)) (blkOk_by (N := n_l_piece_text) (sc := defScope s_l_piece_text) (by decide +kernel)) (hvs_N (by decide)) (fun _ _ _ _ _ => (gn 6 sc_l_piece_text.nd)) (fun _ _ _ _ _ => ts_nil) (fun _ _ _ _ _ => (d_callF (x := "_law_row_text") F_l_row_text takes0 (hr.mono (by decide)) (by rfl) (a_cons (dv 6) a_nil))))))))
    ss_nil)))
set_option maxHeartbeats 4000000 in
theorem ok_goes_over (T : Tx K w mg)   {f : Addr} {fd : FuncData} (F : Fun K "goes_over" "goes_over" s_goes_over f fd) : FnOk P w K mg base (L2.CX P w) 1 f fd [Str.ofString "row"] (spD K xs 1 (runB 1 1 b_goes_over)) :=
  fn_d F sc_goes_over fun cdv A outer sh H E hr => by
  have tk : Takes (cxOf (L2.CX P w) P w K mg base n_goes_over "goes_over" (defScope s_goes_over) f cdv A outer sh H E) (fun cls d _ H => E cls d H) := takes_of rfl rfl rfl rfl
  have hp : PassesOwn (model P w) (A.deeper (PyProof.Rows.envOfC "goes_over" (defScope s_goes_over) sh.heap.objs.size f cdv)) (PyProof.Rows.envOfC "goes_over" (defScope s_goes_over) sh.heap.objs.size f cdv) (cxOf (L2.CX P w) P w K mg base n_goes_over "goes_over" (defScope s_goes_over) f cdv A outer sh H E).xe := passes_of (X := cxOf (L2.CX P w) P w K mg base n_goes_over "goes_over" (defScope s_goes_over) f cdv A outer sh H E) rfl
  exact (ss_cons (s_if (t_cmp (o_in (u65 hr)) (d_ix (dv 0) d_int (fun _ _ => rfl)) (d_tup (a_cons d_str (a_cons d_str (a_cons d_str a_nil))))) (ss_cons (s_ret (d_ix (dv 0) (d_neg d_int) (fun _ _ => rfl)))
    ss_nil) ss_nil)
    (ss_cons (s_ret d_int)
    ss_nil))
set_option maxHeartbeats 4000000 in
theorem ok_is_word (T : Tx K w mg)   {f : Addr} {fd : FuncData} (F : Fun K "is_word" "is_word" s_is_word f fd) : FnOk P w K mg base (L2.CX P w) 1 f fd [Str.ofString "thing"] (spD K xs 1 (runB 2 1 b_is_word)) :=
  fn_d F sc_is_word fun cdv A outer sh H E hr => by
  have tk : Takes (cxOf (L2.CX P w) P w K mg base n_is_word "is_word" (defScope s_is_word) f cdv A outer sh H E) (fun cls d _ H => E cls d H) := takes_of rfl rfl rfl rfl
  have hp : PassesOwn (model P w) (A.deeper (PyProof.Rows.envOfC "is_word" (defScope s_is_word) sh.heap.objs.size f cdv)) (PyProof.Rows.envOfC "is_word" (defScope s_is_word) sh.heap.objs.size f cdv) (cxOf (L2.CX P w) P w K mg base n_is_word "is_word" (defScope s_is_word) f cdv A outer sh H E).xe := passes_of (X := cxOf (L2.CX P w) P w K mg base n_is_word "is_word" (defScope s_is_word) f cdv A outer sh H E) rfl
  exact (ss_cons (s_if (PW.pt (w_or (t_not (t_val (d_callB (x := "isinstance") c_isi (by rfl) T.b_isinstance bt_isinstance (a_cons (dv 0) (a_cons (d_ty (by rfl) T.b_str bt_str) a_nil))))) (w_or1 (t_not (t_chain o_le o_le d_int (d_callB (x := "len") c_len (by rfl) T.b_len bt_len (a_cons (dv 0) a_nil)) (d_gInt rfl T.c_LONGEST)))))) (ss_cons (s_ret d_bl)
    ss_nil) ss_nil)
    (ss_cons (s_ret (d_callB (x := "all") (c_all rfl) (by rfl) T.b_all bt_all (a_cons (d_new (l_comp (own := [("sign", 1)]) rfl sc_is_word.nd (i_seq (dv 0)) (blkOk_by (N := n_is_word) (sc := defScope s_is_word) (by decide +kernel)) (hvs_N (by decide)) (fun _ _ _ _ _ => (gn 1 sc_is_word.nd)) (fun _ _ _ _ _ => ts_nil) (fun _ _ _ _ _ => (d_cmp (o_in (u65 hr)) (dv 1) (d_gStr rfl T.c_LETTERS))))) a_nil)))
    ss_nil))
set_option maxHeartbeats 4000000 in
theorem ok_are_args (T : Tx K w mg) (F_is_word : Fn P w K mg base xs "is_word" 1 1 f_is_word)  {f : Addr} {fd : FuncData} (F : Fun K "are_args" "are_args" s_are_args f fd) : FnOk P w K mg base (L2.CX P w) 2 f fd [Str.ofString "thing"] (spD K xs 1 (runB 2 1 b_are_args)) :=
  fn_d F sc_are_args fun cdv A outer sh H E hr => by
  have tk : Takes (cxOf (L2.CX P w) P w K mg base n_are_args "are_args" (defScope s_are_args) f cdv A outer sh H E) (fun cls d _ H => E cls d H) := takes_of rfl rfl rfl rfl
  have hp : PassesOwn (model P w) (A.deeper (PyProof.Rows.envOfC "are_args" (defScope s_are_args) sh.heap.objs.size f cdv)) (PyProof.Rows.envOfC "are_args" (defScope s_are_args) sh.heap.objs.size f cdv) (cxOf (L2.CX P w) P w K mg base n_are_args "are_args" (defScope s_are_args) f cdv A outer sh H E).xe := passes_of (X := cxOf (L2.CX P w) P w K mg base n_are_args "are_args" (defScope s_are_args) f cdv A outer sh H E) rfl
  exact (ss_cons (s_ret (d_and (d_callB (x := "isinstance") c_isi (by rfl) T.b_isinstance bt_isinstance (a_cons (dv 0) (a_cons (d_ty (by rfl) T.b_tuple bt_tuple) a_nil))) (d_and (d_cmp o_le (d_callB (x := "len") c_len (by rfl) T.b_len bt_len (a_cons (dv 0) a_nil)) (d_gInt rfl T.c_MOST_ARGS)) (d_one (d_callB (x := "all") (c_all rfl) (by rfl) T.b_all bt_all (a_cons (d_new (l_comp (own := [("word", 1)]) rfl sc_are_args.nd (i_seq (dv 0)) (blkOk_by (N := n_are_args) (sc := defScope s_are_args) (by decide +kernel)) (hvs_N (by decide)) (fun _ _ _ _ _ => (gn 1 sc_are_args.nd)) (fun _ _ _ _ _ => ts_nil) (fun _ _ _ _ _ => (d_callF (x := "is_word") F_is_word takes0 (hr.mono (by decide)) (by rfl) (a_cons (dv 1) a_nil))))) a_nil))))))
    ss_nil)
set_option maxHeartbeats 4000000 in
theorem ok_are_leaves (T : Tx K w mg) (F_is_word : Fn P w K mg base xs "is_word" 1 1 f_is_word)  {f : Addr} {fd : FuncData} (F : Fun K "are_leaves" "are_leaves" s_are_leaves f fd) : FnOk P w K mg base (L2.CX P w) 2 f fd [Str.ofString "thing"] (spD K xs 1 (runB 3 1 b_are_leaves)) :=
  fn_d F sc_are_leaves fun cdv A outer sh H E hr => by
  have tk : Takes (cxOf (L2.CX P w) P w K mg base n_are_leaves "are_leaves" (defScope s_are_leaves) f cdv A outer sh H E) (fun cls d _ H => E cls d H) := takes_of rfl rfl rfl rfl
  have hp : PassesOwn (model P w) (A.deeper (PyProof.Rows.envOfC "are_leaves" (defScope s_are_leaves) sh.heap.objs.size f cdv)) (PyProof.Rows.envOfC "are_leaves" (defScope s_are_leaves) sh.heap.objs.size f cdv) (cxOf (L2.CX P w) P w K mg base n_are_leaves "are_leaves" (defScope s_are_leaves) f cdv A outer sh H E).xe := passes_of (X := cxOf (L2.CX P w) P w K mg base n_are_leaves "are_leaves" (defScope s_are_leaves) f cdv A outer sh H E) rfl
  exact (ss_cons (s_if (PW.pt (w_or (t_not (t_val (d_callB (x := "isinstance") c_isi (by rfl) T.b_isinstance bt_isinstance (a_cons (dv 0) (a_cons (d_ty (by rfl) T.b_tuple bt_tuple) a_nil))))) (w_or1 (t_cmp o_gt (d_callB (x := "len") c_len (by rfl) T.b_len bt_len (a_cons (dv 0) a_nil)) (d_gInt rfl T.c_MOST))))) (ss_cons (s_ret d_bl)
    ss_nil) ss_nil)
    (ss_cons (s_for hp rfl (i_enumerate rfl T.b_enumerate (a_cons (dv 0) a_nil)) (g_tup rfl sc_are_leaves.nd (gc 1 (gc 2 .nil))) (b := t1_are_leaves) (ss_cons (s_if (PW.pt (w_or (t_not (t_val (d_callF (x := "is_word") F_is_word tk (hr.mono (by decide)) (by rfl) (a_cons (dv 2) a_nil)))) (w_or1 (PW.pt (w_and (t_cmp o_gt (dv 1) d_int) (w_and1 (t_cmp o_le (dv 2) (d_ix (dv 0) (d_bin o_sub (dv 1) d_int) (fun _ _ => rfl))))))))) (ss_cons (s_ret d_bl)
    ss_nil) ss_nil)
    ss_nil))
    (ss_cons (s_ret d_bl)
    ss_nil)))
set_option maxHeartbeats 4000000 in
theorem ok_is_whole (T : Tx K w mg)   {f : Addr} {fd : FuncData} (F : Fun K "is_whole" "is_whole" s_is_whole f fd) : FnOk P w K mg base (L2.CX P w) 1 f fd [Str.ofString "thing"] (spD K xs 1 (runB 1 1 b_is_whole)) :=
  fn_d F sc_is_whole fun cdv A outer sh H E hr => by
  have tk : Takes (cxOf (L2.CX P w) P w K mg base n_is_whole "is_whole" (defScope s_is_whole) f cdv A outer sh H E) (fun cls d _ H => E cls d H) := takes_of rfl rfl rfl rfl
  have hp : PassesOwn (model P w) (A.deeper (PyProof.Rows.envOfC "is_whole" (defScope s_is_whole) sh.heap.objs.size f cdv)) (PyProof.Rows.envOfC "is_whole" (defScope s_is_whole) sh.heap.objs.size f cdv) (cxOf (L2.CX P w) P w K mg base n_is_whole "is_whole" (defScope s_is_whole) f cdv A outer sh H E).xe := passes_of (X := cxOf (L2.CX P w) P w K mg base n_is_whole "is_whole" (defScope s_is_whole) f cdv A outer sh H E) rfl
  exact (ss_cons (s_ret (d_and (d_callB (x := "isinstance") c_isi (by rfl) T.b_isinstance bt_isinstance (a_cons (dv 0) (a_cons (d_ty (by rfl) T.b_int bt_int) a_nil))) (d_one (d_not (d_callB (x := "isinstance") c_isi (by rfl) T.b_isinstance bt_isinstance (a_cons (dv 0) (a_cons (d_ty (by rfl) T.b_bool bt_bool) a_nil)))))))
    ss_nil)
set_option maxHeartbeats 4000000 in
theorem ok_is_number (T : Tx K w mg) (F_is_whole : Fn P w K mg base xs "is_whole" 1 1 f_is_whole)  {f : Addr} {fd : FuncData} (F : Fun K "is_number" "is_number" s_is_number f fd) : FnOk P w K mg base (L2.CX P w) 2 f fd [Str.ofString "thing"] (spD K xs 1 (runB 1 1 b_is_number)) :=
  fn_d F sc_is_number fun cdv A outer sh H E hr => by
  have tk : Takes (cxOf (L2.CX P w) P w K mg base n_is_number "is_number" (defScope s_is_number) f cdv A outer sh H E) (fun cls d _ H => E cls d H) := takes_of rfl rfl rfl rfl
  have hp : PassesOwn (model P w) (A.deeper (PyProof.Rows.envOfC "is_number" (defScope s_is_number) sh.heap.objs.size f cdv)) (PyProof.Rows.envOfC "is_number" (defScope s_is_number) sh.heap.objs.size f cdv) (cxOf (L2.CX P w) P w K mg base n_is_number "is_number" (defScope s_is_number) f cdv A outer sh H E).xe := passes_of (X := cxOf (L2.CX P w) P w K mg base n_is_number "is_number" (defScope s_is_number) f cdv A outer sh H E) rfl
  exact (ss_cons (s_ret (d_and (d_callF (x := "is_whole") F_is_whole tk (hr.mono (by decide)) (by rfl) (a_cons (dv 0) a_nil)) (d_one (d_cmp o_le (d_callB (x := "abs") c_abs (by rfl) T.b_abs bt_abs (a_cons (dv 0) a_nil)) (d_gInt rfl T.c_GREATEST)))))
    ss_nil)
set_option maxHeartbeats 4000000 in
theorem ok_is_part (T : Tx K w mg) (F_are_args : Fn P w K mg base xs "are_args" 2 1 f_are_args) (F_are_leaves : Fn P w K mg base xs "are_leaves" 2 1 f_are_leaves) (F_is_number : Fn P w K mg base xs "is_number" 2 1 f_is_number) (F_is_whole : Fn P w K mg base xs "is_whole" 1 1 f_is_whole) (F_is_word : Fn P w K mg base xs "is_word" 1 1 f_is_word)  {f : Addr} {fd : FuncData} (F : Fun K "is_part" "is_part" s_is_part f fd) : FnOk P w K mg base (L2.CX P w) 3 f fd [Str.ofString "sort", Str.ofString "thing"] (spD K xs 2 (runB 2 2 b_is_part)) :=
  fn_d F sc_is_part fun cdv A outer sh H E hr => by
  have tk : Takes (cxOf (L2.CX P w) P w K mg base n_is_part "is_part" (defScope s_is_part) f cdv A outer sh H E) (fun cls d _ H => E cls d H) := takes_of rfl rfl rfl rfl
  have hp : PassesOwn (model P w) (A.deeper (PyProof.Rows.envOfC "is_part" (defScope s_is_part) sh.heap.objs.size f cdv)) (PyProof.Rows.envOfC "is_part" (defScope s_is_part) sh.heap.objs.size f cdv) (cxOf (L2.CX P w) P w K mg base n_is_part "is_part" (defScope s_is_part) f cdv A outer sh H E).xe := passes_of (X := cxOf (L2.CX P w) P w K mg base n_is_part "is_part" (defScope s_is_part) f cdv A outer sh H E) rfl
  exact (ss_cons (s_if (t_cmp (o_eq hr.units) (dv 0) d_str) (ss_cons (s_ret (d_callF (x := "is_word") F_is_word tk (hr.mono (by decide)) (by rfl) (a_cons (dv 1) a_nil)))
    ss_nil) ss_nil)
    (ss_cons (s_if (t_cmp (o_eq hr.units) (dv 0) d_str) (ss_cons (s_ret (d_callF (x := "is_number") F_is_number tk (hr.mono (by decide)) (by rfl) (a_cons (dv 1) a_nil)))
    ss_nil) ss_nil)
    (ss_cons (s_if (t_cmp (o_eq hr.units) (dv 0) d_str) (ss_cons (s_ret (d_callF (x := "are_args") F_are_args tk (hr.mono (by decide)) (by rfl) (a_cons (dv 1) a_nil)))
    ss_nil) ss_nil)
    (ss_cons (s_if (t_cmp (o_eq hr.units) (dv 0) d_str) (ss_cons (s_ret (d_callF (x := "are_leaves") F_are_leaves tk (hr.mono (by decide)) (by rfl) (a_cons (dv 1) a_nil)))
    ss_nil) ss_nil)
    (ss_cons (s_ret (d_and (d_callF (x := "is_whole") F_is_whole tk (hr.mono (by decide)) (by rfl) (a_cons (dv 1) a_nil)) (d_one (d_cmp o_gt (dv 1) d_int))))
    ss_nil)))))
set_option maxHeartbeats 4000000 in
theorem ok_is_row (T : Tx K w mg) (F_is_part : Fn P w K mg base xs "is_part" 3 2 f_is_part)  {f : Addr} {fd : FuncData} (F : Fun K "is_row" "is_row" s_is_row f fd) : FnOk P w K mg base (L2.CX P w) 4 f fd [Str.ofString "thing"] (spD K xs 1 (runB 3 1 b_is_row)) :=
  fn_d F sc_is_row fun cdv A outer sh H E hr => by
  have tk : Takes (cxOf (L2.CX P w) P w K mg base n_is_row "is_row" (defScope s_is_row) f cdv A outer sh H E) (fun cls d _ H => E cls d H) := takes_of rfl rfl rfl rfl
  have hp : PassesOwn (model P w) (A.deeper (PyProof.Rows.envOfC "is_row" (defScope s_is_row) sh.heap.objs.size f cdv)) (PyProof.Rows.envOfC "is_row" (defScope s_is_row) sh.heap.objs.size f cdv) (cxOf (L2.CX P w) P w K mg base n_is_row "is_row" (defScope s_is_row) f cdv A outer sh H E).xe := passes_of (X := cxOf (L2.CX P w) P w K mg base n_is_row "is_row" (defScope s_is_row) f cdv A outer sh H E) rfl
  exact (ss_cons (s_if (PW.pt (w_or (t_not (t_val (d_callB (x := "isinstance") c_isi (by rfl) T.b_isinstance bt_isinstance (a_cons (dv 0) (a_cons (d_ty (by rfl) T.b_tuple bt_tuple) a_nil))))) (w_or (t_cmp (o_eq hr.units) (dv 0) (d_tup a_nil)) (w_or1 (t_not (t_val (d_callB (x := "isinstance") c_isi (by rfl) T.b_isinstance bt_isinstance (a_cons (d_ix (dv 0) d_int (fun _ _ => rfl)) (a_cons (d_ty (by rfl) T.b_str bt_str) a_nil))))))))) (ss_cons (s_ret d_bl)
    ss_nil) ss_nil)
    (ss_cons (s_if (PW.pt (w_or (t_tabNin T.t_PARTS rfl (d_ix (dv 0) d_int (fun _ _ => rfl))) (w_or1 (t_cmp (o_ne hr.units) (d_callB (x := "len") c_len (by rfl) T.b_len bt_len (a_cons (dv 0) a_nil)) (d_bin o_add (d_callB (x := "len") c_len (by rfl) T.b_len bt_len (a_cons (d_tabIx T.t_PARTS rfl (d_ix (dv 0) d_int (fun _ _ => rfl)) (fun _ _ => rfl)) a_nil)) d_int))))) (ss_cons (s_ret d_bl)
    ss_nil) ss_nil)
    (ss_cons (s_ret (d_callB (x := "all") (c_all rfl) (by rfl) T.b_all bt_all (a_cons (d_new (l_comp (own := [("sort", 1), ("part", 2)]) rfl sc_is_row.nd (i_zip rfl T.b_zip (a_cons (d_tabIx T.t_PARTS rfl (d_ix (dv 0) d_int (fun _ _ => rfl)) (fun _ _ => rfl)) (a_cons (d_slice (dv 0) (op_some d_int) op_none) a_nil))) (blkOk_by (N := n_is_row) (sc := defScope s_is_row) (by decide +kernel)) (hvs_T (by decide)) (fun _ _ _ _ _ => (g_tup rfl sc_is_row.nd (gc 1 (gc 2 .nil)))) (fun _ _ _ _ _ => ts_nil) (fun _ _ _ _ _ => (d_callF (x := "is_part") F_is_part takes0 (hr.mono (by decide)) (by rfl) (a_cons (dv 1) (a_cons (dv 2) a_nil)))))) a_nil)))
    ss_nil)))
set_option maxHeartbeats 4000000 in
theorem ok_bad_row (T : Tx K w mg) (F_goes_over : Fn P w K mg base xs "goes_over" 1 1 f_goes_over) (F_is_row : Fn P w K mg base xs "is_row" 4 1 f_is_row)  {f : Addr} {fd : FuncData} (F : Fun K "bad_row" "bad_row" s_bad_row f fd) : FnOk P w K mg base (L2.CX P w) 5 f fd [Str.ofString "rows"] (spD K xs 1 (runB 3 1 b_bad_row)) :=
  fn_d F sc_bad_row fun cdv A outer sh H E hr => by
  have tk : Takes (cxOf (L2.CX P w) P w K mg base n_bad_row "bad_row" (defScope s_bad_row) f cdv A outer sh H E) (fun cls d _ H => E cls d H) := takes_of rfl rfl rfl rfl
  have hp : PassesOwn (model P w) (A.deeper (PyProof.Rows.envOfC "bad_row" (defScope s_bad_row) sh.heap.objs.size f cdv)) (PyProof.Rows.envOfC "bad_row" (defScope s_bad_row) sh.heap.objs.size f cdv) (cxOf (L2.CX P w) P w K mg base n_bad_row "bad_row" (defScope s_bad_row) f cdv A outer sh H E).xe := passes_of (X := cxOf (L2.CX P w) P w K mg base n_bad_row "bad_row" (defScope s_bad_row) f cdv A outer sh H E) rfl
  exact (ss_cons (s_for hp rfl (i_enumerate rfl T.b_enumerate (a_cons (dv 0) a_nil)) (g_tup rfl sc_bad_row.nd (gc 1 (gc 2 .nil))) (b := t1_bad_row) (ss_cons (s_if (PW.pt (w_or (t_not (t_val (d_callF (x := "is_row") F_is_row tk (hr.mono (by decide)) (by rfl) (a_cons (dv 2) a_nil)))) (w_or1 (t_cmp o_gt (d_bin o_add (d_bin o_add (dv 1) d_int) (d_callF (x := "goes_over") F_goes_over tk (hr.mono (by decide)) (by rfl) (a_cons (dv 2) a_nil))) (d_callB (x := "len") c_len (by rfl) T.b_len bt_len (a_cons (dv 0) a_nil)))))) (ss_cons (s_ret (dv 1))
    ss_nil) ss_nil)
    ss_nil))
    (ss_cons (s_ret d_non)
    ss_nil))
set_option maxHeartbeats 4000000 in
theorem ok_is_head (T : Tx K w mg) (F_are_args : Fn P w K mg base xs "are_args" 2 1 f_are_args) (F_are_leaves : Fn P w K mg base xs "are_leaves" 2 1 f_are_leaves) (F_is_word : Fn P w K mg base xs "is_word" 1 1 f_is_word)  {f : Addr} {fd : FuncData} (F : Fun K "is_head" "is_head" s_is_head f fd) : FnOk P w K mg base (L2.CX P w) 3 f fd [Str.ofString "thing"] (spD K xs 1 (runB 5 1 b_is_head)) :=
  fn_d F sc_is_head fun cdv A outer sh H E hr => by
  have tk : Takes (cxOf (L2.CX P w) P w K mg base n_is_head "is_head" (defScope s_is_head) f cdv A outer sh H E) (fun cls d _ H => E cls d H) := takes_of rfl rfl rfl rfl
  have hp : PassesOwn (model P w) (A.deeper (PyProof.Rows.envOfC "is_head" (defScope s_is_head) sh.heap.objs.size f cdv)) (PyProof.Rows.envOfC "is_head" (defScope s_is_head) sh.heap.objs.size f cdv) (cxOf (L2.CX P w) P w K mg base n_is_head "is_head" (defScope s_is_head) f cdv A outer sh H E).xe := passes_of (X := cxOf (L2.CX P w) P w K mg base n_is_head "is_head" (defScope s_is_head) f cdv A outer sh H E) rfl
  exact (ss_cons (s_if (PW.pt (w_or (t_not (t_val (d_callB (x := "isinstance") c_isi (by rfl) T.b_isinstance bt_isinstance (a_cons (dv 0) (a_cons (d_ty (by rfl) T.b_tuple bt_tuple) a_nil))))) (w_or1 (t_cmp (o_ne hr.units) (d_callB (x := "len") c_len (by rfl) T.b_len bt_len (a_cons (dv 0) a_nil)) d_int)))) (ss_cons (s_ret d_bl)
    ss_nil) ss_nil)
    (ss_cons (s_unp (dv 0) (g_any rfl sc_is_head.nd (gc 1 (gc 2 (gc 3 (gc 4 .nil))))))
    (ss_cons (s_if (PW.pt (w_or (t_not (t_val (d_callF (x := "is_word") F_is_word tk (hr.mono (by decide)) (by rfl) (a_cons (dv 1) a_nil)))) (w_or (t_not (t_val (d_callF (x := "are_leaves") F_are_leaves tk (hr.mono (by decide)) (by rfl) (a_cons (dv 2) a_nil)))) (w_or (t_not (t_val (d_callF (x := "are_args") F_are_args tk (hr.mono (by decide)) (by rfl) (a_cons (dv 3) a_nil)))) (w_or1 (t_cmp (o_ne hr.units) (d_lenSet rfl rfl T.b_len rfl T.b_set (dv 3)) (d_callB (x := "len") c_len (by rfl) T.b_len bt_len (a_cons (dv 3) a_nil)))))))) (ss_cons (s_ret d_bl)
    ss_nil) ss_nil)
    (ss_cons (s_ret (d_and (d_callB (x := "isinstance") c_isi (by rfl) T.b_isinstance bt_isinstance (a_cons (dv 4) (a_cons (d_ty (by rfl) T.b_tuple bt_tuple) a_nil))) (d_one (d_chain o_le o_le d_int (d_callB (x := "len") c_len (by rfl) T.b_len bt_len (a_cons (dv 4) a_nil)) (d_gInt rfl T.c_MOST_ROWS)))))
    ss_nil))))
set_option maxHeartbeats 4000000 in
theorem ok_leaves_in (T : Tx K w mg)   {f : Addr} {fd : FuncData} (F : Fun K "leaves_in" "leaves_in" s_leaves_in f fd) : FnOk P w K mg base (L2.CX P w) 1 f fd [Str.ofString "row"] (spD K xs 1 (runB 1 1 b_leaves_in)) :=
  fn_d F sc_leaves_in fun cdv A outer sh H E hr => by
  have tk : Takes (cxOf (L2.CX P w) P w K mg base n_leaves_in "leaves_in" (defScope s_leaves_in) f cdv A outer sh H E) (fun cls d _ H => E cls d H) := takes_of rfl rfl rfl rfl
  have hp : PassesOwn (model P w) (A.deeper (PyProof.Rows.envOfC "leaves_in" (defScope s_leaves_in) sh.heap.objs.size f cdv)) (PyProof.Rows.envOfC "leaves_in" (defScope s_leaves_in) sh.heap.objs.size f cdv) (cxOf (L2.CX P w) P w K mg base n_leaves_in "leaves_in" (defScope s_leaves_in) f cdv A outer sh H E).xe := passes_of (X := cxOf (L2.CX P w) P w K mg base n_leaves_in "leaves_in" (defScope s_leaves_in) f cdv A outer sh H E) rfl
  exact (ss_cons (s_if (t_cmp (o_in (u65 hr)) (d_ix (dv 0) d_int (fun _ _ => rfl)) (d_tup (a_cons d_str (a_cons d_str a_nil)))) (ss_cons (s_ret (d_ix (dv 0) (d_neg d_int) (fun _ _ => rfl)))
    ss_nil) ss_nil)
    (ss_cons (s_if (t_cmp (o_in (u65 hr)) (d_ix (dv 0) d_int (fun _ _ => rfl)) (d_tup (a_cons d_str (a_cons d_str (a_cons d_str a_nil))))) (ss_cons (s_ret (d_tup (a_cons (d_ix (dv 0) d_int (fun _ _ => rfl)) a_nil)))
    ss_nil) ss_nil)
    (ss_cons (s_ret (d_tup a_nil))
    ss_nil)))
set_option maxHeartbeats 4000000 in
theorem ok_words_of (T : Tx K w mg) (F_leaves_in : Fn P w K mg base xs "leaves_in" 1 1 f_leaves_in)  {f : Addr} {fd : FuncData} (F : Fun K "words_of" "words_of" s_words_of f fd) : FnOk P w K mg base (L2.CX P w) 2 f fd [Str.ofString "piece"] (spD K xs 1 (runB 3 1 b_words_of)) :=
  fn_d F sc_words_of fun cdv A outer sh H E hr => by
  have tk : Takes (cxOf (L2.CX P w) P w K mg base n_words_of "words_of" (defScope s_words_of) f cdv A outer sh H E) (fun cls d _ H => E cls d H) := takes_of rfl rfl rfl rfl
  have hp : PassesOwn (model P w) (A.deeper (PyProof.Rows.envOfC "words_of" (defScope s_words_of) sh.heap.objs.size f cdv)) (PyProof.Rows.envOfC "words_of" (defScope s_words_of) sh.heap.objs.size f cdv) (cxOf (L2.CX P w) P w K mg base n_words_of "words_of" (defScope s_words_of) f cdv A outer sh H E).xe := passes_of (X := cxOf (L2.CX P w) P w K mg base n_words_of "words_of" (defScope s_words_of) f cdv A outer sh H E) rfl
  exact (ss_cons (sown 1 sc_words_of.nd (l_list rfl rfl T.b_list (a_cons (d_ix (dv 0) d_int (fun _ _ => rfl)) a_nil)))
    (ss_cons (s_for hp rfl (i_seq (d_ix (dv 0) d_int (fun _ _ => rfl))) (gn 2 sc_words_of.nd) (b := t1_words_of) (ss_cons (sext 1 (d_callF (x := "leaves_in") F_leaves_in tk (hr.mono (by decide)) (by rfl) (a_cons (dv 2) a_nil)))
    ss_nil))
    (ss_cons (s_frz 1 (s_ret (dv 1)))
    ss_nil)))
set_option maxHeartbeats 4000000 in
theorem ok_roster_in (T : Tx K w mg) (F_words_of : Fn P w K mg base xs "words_of" 2 1 f_words_of)  {f : Addr} {fd : FuncData} (F : Fun K "roster_in" "roster_in" s_roster_in f fd) : FnOk P w K mg base (L2.CX P w) 3 f fd [Str.ofString "book"] (spD K xs 1 (runB 3 1 b_roster_in)) :=
  fn_d F sc_roster_in fun cdv A outer sh H E hr => by
  have tk : Takes (cxOf (L2.CX P w) P w K mg base n_roster_in "roster_in" (defScope s_roster_in) f cdv A outer sh H E) (fun cls d _ H => E cls d H) := takes_of rfl rfl rfl rfl
  have hp : PassesOwn (model P w) (A.deeper (PyProof.Rows.envOfC "roster_in" (defScope s_roster_in) sh.heap.objs.size f cdv)) (PyProof.Rows.envOfC "roster_in" (defScope s_roster_in) sh.heap.objs.size f cdv) (cxOf (L2.CX P w) P w K mg base n_roster_in "roster_in" (defScope s_roster_in) f cdv A outer sh H E).xe := passes_of (X := cxOf (L2.CX P w) P w K mg base n_roster_in "roster_in" (defScope s_roster_in) f cdv A outer sh H E) rfl
  exact (ss_cons (sown 1 sc_roster_in.nd (l_lst a_nil))
    (ss_cons (s_for hp rfl (i_seq (dv 0)) (gn 2 sc_roster_in.nd) (b := t1_roster_in) (ss_cons (sext 1 (d_callF (x := "words_of") F_words_of tk (hr.mono (by decide)) (by rfl) (a_cons (dv 2) a_nil)))
    ss_nil))
    (ss_cons (s_frz 1 (s_ret (d_callT c_tup (by rfl) T.b_tuple bt_tuple (a_cons (d_new (l_sortSet rfl rfl T.b_sorted rfl T.b_set (dv 1))) a_nil))))
    ss_nil)))
set_option maxHeartbeats 4000000 in
theorem ok_look_at_book (T : Tx K w mg) (F_bad_row : Fn P w K mg base xs "bad_row" 5 1 f_bad_row) (F_is_head : Fn P w K mg base xs "is_head" 3 1 f_is_head) (F_roster_in : Fn P w K mg base xs "roster_in" 3 1 f_roster_in)  {f : Addr} {fd : FuncData} (F : Fun K "look_at_book" "look_at_book" s_look_at_book f fd) : FnOk P w K mg base (L2.CX P w) 6 f fd [Str.ofString "thing"] (spD K xs 1 (runB 5 1 b_look_at_book)) :=
  fn_d F sc_look_at_book fun cdv A outer sh H E hr => by
  have tk : Takes (cxOf (L2.CX P w) P w K mg base n_look_at_book "look_at_book" (defScope s_look_at_book) f cdv A outer sh H E) (fun cls d _ H => E cls d H) := takes_of rfl rfl rfl rfl
  have hp : PassesOwn (model P w) (A.deeper (PyProof.Rows.envOfC "look_at_book" (defScope s_look_at_book) sh.heap.objs.size f cdv)) (PyProof.Rows.envOfC "look_at_book" (defScope s_look_at_book) sh.heap.objs.size f cdv) (cxOf (L2.CX P w) P w K mg base n_look_at_book "look_at_book" (defScope s_look_at_book) f cdv A outer sh H E).xe := passes_of (X := cxOf (L2.CX P w) P w K mg base n_look_at_book "look_at_book" (defScope s_look_at_book) f cdv A outer sh H E) rfl
  exact (ss_cons (s_if (PW.pt (w_or (t_not (t_val (d_callB (x := "isinstance") c_isi (by rfl) T.b_isinstance bt_isinstance (a_cons (dv 0) (a_cons (d_ty (by rfl) T.b_list bt_list) a_nil))))) (w_or1 (t_not (t_chain o_le o_le d_int (d_callB (x := "len") c_len (by rfl) T.b_len bt_len (a_cons (dv 0) a_nil)) (d_gInt rfl T.c_MOST_PIECES)))))) (ss_cons s_bad
    ss_nil) ss_nil)
    (ss_cons (s_for hp rfl (i_enumerate rfl T.b_enumerate (a_cons (dv 0) a_nil)) (g_tup rfl sc_look_at_book.nd (gc 1 (gc 2 .nil))) (b := t1_look_at_book) (ss_cons (s_if (PW.pt (w_or (t_not (t_val (d_callF (x := "is_head") F_is_head tk (hr.mono (by decide)) (by rfl) (a_cons (dv 2) a_nil)))) (w_or1 (t_cmp (o_in (u65 hr)) (d_ix (dv 2) d_int (fun _ _ => rfl)) (d_new (l_comp (own := [("one", 4)]) rfl sc_look_at_book.nd (i_seq (d_slice (dv 0) op_none (op_some (dv 1)))) (blkOk_by (N := n_look_at_book) (sc := defScope s_look_at_book) (by decide +kernel)) (hvs_N (by decide)) (fun _ _ _ _ _ => (gn 4 sc_look_at_book.nd)) (fun _ _ _ _ _ => ts_nil) (fun _ _ _ _ _ => (d_ix (dv 4) d_int (fun _ _ => rfl))))))))) (ss_cons s_bad
    ss_nil) ss_nil)
    (ss_cons (sset 3 sc_look_at_book.nd (d_callF (x := "bad_row") F_bad_row tk (hr.mono (by decide)) (by rfl) (a_cons (d_ix (dv 2) d_int (fun _ _ => rfl)) a_nil)))
    (ss_cons (s_if (t_cmp o_isnot (dv 3) d_non) (ss_cons s_bad
    ss_nil) ss_nil)
    ss_nil))))
    (ss_cons (s_if (t_cmp o_gt (d_callB (x := "len") c_len (by rfl) T.b_len bt_len (a_cons (d_callF (x := "roster_in") F_roster_in tk (hr.mono (by decide)) (by rfl) (a_cons (dv 0) a_nil)) a_nil)) (d_gInt rfl T.c_MOST_LEAVES)) (ss_cons s_bad
    ss_nil) ss_nil)
    ss_nil)))
set_option maxHeartbeats 4000000 in
theorem ok_part_shown (T : Tx K w mg)   {f : Addr} {fd : FuncData} (F : Fun K "part_shown" "part_shown" s_part_shown f fd) : FnOk P w K mg base (L2.CX P w) 1 f fd [Str.ofString "sort", Str.ofString "part"] (spD K xs 2 (runB 2 2 b_part_shown)) :=
  fn_d F sc_part_shown fun cdv A outer sh H E hr => by
  have tk : Takes (cxOf (L2.CX P w) P w K mg base n_part_shown "part_shown" (defScope s_part_shown) f cdv A outer sh H E) (fun cls d _ H => E cls d H) := takes_of rfl rfl rfl rfl
  have hp : PassesOwn (model P w) (A.deeper (PyProof.Rows.envOfC "part_shown" (defScope s_part_shown) sh.heap.objs.size f cdv)) (PyProof.Rows.envOfC "part_shown" (defScope s_part_shown) sh.heap.objs.size f cdv) (cxOf (L2.CX P w) P w K mg base n_part_shown "part_shown" (defScope s_part_shown) f cdv A outer sh H E).xe := passes_of (X := cxOf (L2.CX P w) P w K mg base n_part_shown "part_shown" (defScope s_part_shown) f cdv A outer sh H E) rfl
  exact (ss_cons (s_if (t_cmp (o_eq hr.units) (dv 0) d_str) (ss_cons (s_ret (d_bin o_add (d_lst (a_cons d_str a_nil)) (d_new (l_list rfl rfl T.b_list (a_cons (dv 1) a_nil)))))
    ss_nil) ss_nil)
    (ss_cons (s_if (t_cmp (o_eq hr.units) (dv 0) d_str) (ss_cons (s_ret (d_new (l_list rfl rfl T.b_list (a_cons (dv 1) a_nil))))
    ss_nil) ss_nil)
    (ss_cons (s_ret (d_lst (a_cons (d_callT c_str (by rfl) T.b_str bt_str (a_cons (dv 1) a_nil)) a_nil)))
    ss_nil)))
set_option maxHeartbeats 4000000 in
theorem ok_shown_row (T : Tx K w mg) (F_part_shown : Fn P w K mg base xs "part_shown" 1 2 f_part_shown)  {f : Addr} {fd : FuncData} (F : Fun K "shown_row" "shown_row" s_shown_row f fd) : FnOk P w K mg base (L2.CX P w) 2 f fd [Str.ofString "row"] (spD K xs 1 (runB 4 1 b_shown_row)) :=
  fn_d F sc_shown_row fun cdv A outer sh H E hr => by
  have tk : Takes (cxOf (L2.CX P w) P w K mg base n_shown_row "shown_row" (defScope s_shown_row) f cdv A outer sh H E) (fun cls d _ H => E cls d H) := takes_of rfl rfl rfl rfl
  have hp : PassesOwn (model P w) (A.deeper (PyProof.Rows.envOfC "shown_row" (defScope s_shown_row) sh.heap.objs.size f cdv)) (PyProof.Rows.envOfC "shown_row" (defScope s_shown_row) sh.heap.objs.size f cdv) (cxOf (L2.CX P w) P w K mg base n_shown_row "shown_row" (defScope s_shown_row) f cdv A outer sh H E).xe := passes_of (X := cxOf (L2.CX P w) P w K mg base n_shown_row "shown_row" (defScope s_shown_row) f cdv A outer sh H E) rfl
  exact (ss_cons (sown 1 sc_shown_row.nd (l_lst (a_cons (d_ix (dv 0) d_int (fun _ _ => rfl)) a_nil)))
    (ss_cons (s_for hp rfl (i_zip rfl T.b_zip (a_cons (d_tabIx T.t_PARTS rfl (d_ix (dv 0) d_int (fun _ _ => rfl)) (fun _ _ => rfl)) (a_cons (d_slice (dv 0) (op_some d_int) op_none) a_nil))) (g_tup rfl sc_shown_row.nd (gc 2 (gc 3 .nil))) (b := t1_shown_row) (ss_cons (sext 1 (d_callF (x := "part_shown") F_part_shown tk (hr.mono (by decide)) (by rfl) (a_cons (dv 2) (a_cons (dv 3) a_nil))))
    ss_nil))
    (ss_cons (s_frz 1 (s_ret (d_join d_str (dv 1))))
    ss_nil)))
set_option maxHeartbeats 4000000 in
theorem ok_piece_shown (T : Tx K w mg) (F_shown_row : Fn P w K mg base xs "shown_row" 2 1 f_shown_row)  {f : Addr} {fd : FuncData} (F : Fun K "piece_shown" "piece_shown" s_piece_shown f fd) : FnOk P w K mg base (L2.CX P w) 3 f fd [Str.ofString "piece"] (spD K xs 1 (runB 3 1 b_piece_shown)) :=
  fn_d F sc_piece_shown fun cdv A outer sh H E hr => by
  have tk : Takes (cxOf (L2.CX P w) P w K mg base n_piece_shown "piece_shown" (defScope s_piece_shown) f cdv A outer sh H E) (fun cls d _ H => E cls d H) := takes_of rfl rfl rfl rfl
  have hp : PassesOwn (model P w) (A.deeper (PyProof.Rows.envOfC "piece_shown" (defScope s_piece_shown) sh.heap.objs.size f cdv)) (PyProof.Rows.envOfC "piece_shown" (defScope s_piece_shown) sh.heap.objs.size f cdv) (cxOf (L2.CX P w) P w K mg base n_piece_shown "piece_shown" (defScope s_piece_shown) f cdv A outer sh H E).xe := passes_of (X := cxOf (L2.CX P w) P w K mg base n_piece_shown "piece_shown" (defScope s_piece_shown) f cdv A outer sh H E) rfl
  exact (ss_cons (sset 1 sc_piece_shown.nd (d_join d_str (d_bin o_add (d_bin o_add (d_bin o_add (d_lst (a_cons d_str (a_cons (d_ix (dv 0) d_int (fun _ _ => rfl)) a_nil))) (d_new (l_list rfl rfl T.b_list (a_cons (d_ix (dv 0) d_int (fun _ _ => rfl)) a_nil)))) (d_lst (a_cons d_str a_nil))) (d_new (l_list rfl rfl T.b_list (a_cons (d_ix (dv 0) d_int (fun _ _ => rfl)) a_nil))))))
    (ss_cons (s_ret (d_join d_str (d_bin o_add (d_lst (a_cons (dv 1) a_nil)) (d_new (l_comp (own := [("row", 2)]) rfl sc_piece_shown.nd (i_seq (d_ix (dv 0) d_int (fun _ _ => rfl))) (blkOk_by (N := n_piece_shown) (sc := defScope s_piece_shown) (by decide +kernel)) (hvs_N (by decide)) (fun _ _ _ _ _ => (gn 2 sc_piece_shown.nd)) (fun _ _ _ _ _ => ts_nil) (fun _ _ _ _ _ => (d_callF (x := "shown_row") F_shown_row takes0 (hr.mono (by decide)) (by rfl) (a_cons (dv 2) a_nil))))))))
    ss_nil))
set_option maxHeartbeats 4000000 in
theorem ok_shown_book (T : Tx K w mg) (F_look_at_book : Fn P w K mg base xs "look_at_book" 6 1 f_look_at_book) (F_piece_shown : Fn P w K mg base xs "piece_shown" 3 1 f_piece_shown)  {f : Addr} {fd : FuncData} (F : Fun K "shown_book" "shown_book" s_shown_book f fd) : FnOk P w K mg base (L2.CX P w) 7 f fd [Str.ofString "book"] (spD K xs 1 (runB 2 1 b_shown_book)) :=
  fn_d F sc_shown_book fun cdv A outer sh H E hr => by
  have tk : Takes (cxOf (L2.CX P w) P w K mg base n_shown_book "shown_book" (defScope s_shown_book) f cdv A outer sh H E) (fun cls d _ H => E cls d H) := takes_of rfl rfl rfl rfl
  have hp : PassesOwn (model P w) (A.deeper (PyProof.Rows.envOfC "shown_book" (defScope s_shown_book) sh.heap.objs.size f cdv)) (PyProof.Rows.envOfC "shown_book" (defScope s_shown_book) sh.heap.objs.size f cdv) (cxOf (L2.CX P w) P w K mg base n_shown_book "shown_book" (defScope s_shown_book) f cdv A outer sh H E).xe := passes_of (X := cxOf (L2.CX P w) P w K mg base n_shown_book "shown_book" (defScope s_shown_book) f cdv A outer sh H E) rfl
  exact (ss_cons (s_expr (d_callF (x := "look_at_book") F_look_at_book tk (hr.mono (by decide)) (by rfl) (a_cons (dv 0) a_nil)))
    (ss_cons (s_ret (d_join d_str (d_new (l_comp (own := [("piece", 1)]) rfl sc_shown_book.nd (i_seq (dv 0)) (blkOk_by (N := n_shown_book) (sc := defScope s_shown_book) (by decide +kernel)) (hvs_N (by decide)) (fun _ _ _ _ _ => (gn 1 sc_shown_book.nd)) (fun _ _ _ _ _ => ts_nil) (fun _ _ _ _ _ => (d_callF (x := "piece_shown") F_piece_shown takes0 (hr.mono (by decide)) (by rfl) (a_cons (dv 1) a_nil)))))))
    ss_nil))
set_option maxHeartbeats 4000000 in
theorem ok_shown_piece (T : Tx K w mg) (F_look_at_book : Fn P w K mg base xs "look_at_book" 6 1 f_look_at_book) (F_piece_shown : Fn P w K mg base xs "piece_shown" 3 1 f_piece_shown)  {f : Addr} {fd : FuncData} (F : Fun K "shown_piece" "shown_piece" s_shown_piece f fd) : FnOk P w K mg base (L2.CX P w) 7 f fd [Str.ofString "piece"] (spD K xs 1 (runB 1 1 b_shown_piece)) :=
  fn_d F sc_shown_piece fun cdv A outer sh H E hr => by
  have tk : Takes (cxOf (L2.CX P w) P w K mg base n_shown_piece "shown_piece" (defScope s_shown_piece) f cdv A outer sh H E) (fun cls d _ H => E cls d H) := takes_of rfl rfl rfl rfl
  have hp : PassesOwn (model P w) (A.deeper (PyProof.Rows.envOfC "shown_piece" (defScope s_shown_piece) sh.heap.objs.size f cdv)) (PyProof.Rows.envOfC "shown_piece" (defScope s_shown_piece) sh.heap.objs.size f cdv) (cxOf (L2.CX P w) P w K mg base n_shown_piece "shown_piece" (defScope s_shown_piece) f cdv A outer sh H E).xe := passes_of (X := cxOf (L2.CX P w) P w K mg base n_shown_piece "shown_piece" (defScope s_shown_piece) f cdv A outer sh H E) rfl
  exact (ss_cons (s_expr (d_callF (x := "look_at_book") F_look_at_book tk (hr.mono (by decide)) (by rfl) (a_cons (d_lst (a_cons (dv 0) a_nil)) a_nil)))
    (ss_cons (s_ret (d_callF (x := "piece_shown") F_piece_shown tk (hr.mono (by decide)) (by rfl) (a_cons (dv 0) a_nil)))
    ss_nil))
set_option maxHeartbeats 4000000 in
theorem ok_law (T : Tx K w mg) (F_l_book : Fn P w K mg base xs "_law_book" 5 3 f_l_book) (F_l_piece_text : Fn P w K mg base xs "_law_piece_text" 2 1 f_l_piece_text) (F_shown_book : Fn P w K mg base xs "shown_book" 7 1 f_shown_book) (F_shown_piece : Fn P w K mg base xs "shown_piece" 7 1 f_shown_piece)  {f : Addr} {fd : FuncData} (F : Fun K "law" "law" s_law f fd) : FnOk P w K mg base (L2.CX P w) 8 f fd [Str.ofString "_law_script"] (spD K xs 1 (runB 5 1 b_law)) :=
  fn_d F sc_law fun cdv A outer sh H E hr => by
  have tk : Takes (cxOf (L2.CX P w) P w K mg base n_law "law" (defScope s_law) f cdv A outer sh H E) (fun cls d _ H => E cls d H) := takes_of rfl rfl rfl rfl
  have hp : PassesOwn (model P w) (A.deeper (PyProof.Rows.envOfC "law" (defScope s_law) sh.heap.objs.size f cdv)) (PyProof.Rows.envOfC "law" (defScope s_law) sh.heap.objs.size f cdv) (cxOf (L2.CX P w) P w K mg base n_law "law" (defScope s_law) f cdv A outer sh H E).xe := passes_of (X := cxOf (L2.CX P w) P w K mg base n_law "law" (defScope s_law) f cdv A outer sh H E) rfl
  exact (ss_cons (sset 1 sc_law.nd (d_ix (d_callF (x := "_law_book") F_l_book tk (hr.mono (by decide)) (by rfl) (a_cons (dv 0) (a_cons d_int (a_cons d_int a_nil)))) d_int (fun _ _ => rfl)))
    (ss_cons (s_setLcV (own := [("_law_piece", 4)]) rfl sc_law.nd (i := 2) rfl rfl (sw_true rfl rfl rfl (by decide +kernel)) (i_seq (dv 1)) (blkOk_by (N := n_law) (sc := defScope s_law) (by decide +kernel)) (hvs_N (by decide)) (fun _ _ _ _ _ => (gn 4 sc_law.nd)) (fun _ _ _ _ _ => ts_nil) (fun _ _ _ _ _ => (d_callF (x := "_law_piece_text") F_l_piece_text takes0 (hr.mono (by decide)) (by rfl) (a_cons (dv 4) a_nil))))
    (ss_cons (sown 3 sc_law.nd (l_list rfl rfl T.b_list (a_cons (dv 1) a_nil)))
    (ss_cons (s_if (PW.pt (w_or (t_cmp (o_ne hr.units) (d_callO (x := "shown_book") F_shown_book tk (hr.mono (by decide)) (by rfl) (pv 3)) (d_join d_str (dv 2))) (w_or1 (t_cmpOL (o_ne hr.units) (pv 3) (dv 1))))) (ss_cons (s_ret d_bl)
    ss_nil) ss_nil)
    (ss_cons (spop 3)
    (ss_cons (s_if (PW.pt (w_or (t_cmp (o_ne hr.units) (d_new (l_comp (own := [("_law_piece", 4)]) rfl sc_law.nd (i_seq (dv 1)) (blkOk_by (N := n_law) (sc := defScope s_law) (by decide +kernel)) (hvs_N (by decide)) (fun _ _ _ _ _ => (gn 4 sc_law.nd)) (fun _ _ _ _ _ => ts_nil) (fun _ _ _ _ _ => (d_callF (x := "shown_piece") F_shown_piece takes0 (hr.mono (by decide)) (by rfl) (a_cons (dv 4) a_nil))))) (dv 2)) (w_or1 (t_cmp (o_ne hr.units) (d_new (l_comp (own := [("_law_piece", 4)]) rfl sc_law.nd (i_seq (d_back (dv 1))) (blkOk_by (N := n_law) (sc := defScope s_law) (by decide +kernel)) (hvs_N (by decide)) (fun _ _ _ _ _ => (gn 4 sc_law.nd)) (fun _ _ _ _ _ => ts_nil) (fun _ _ _ _ _ => (d_callF (x := "shown_piece") F_shown_piece takes0 (hr.mono (by decide)) (by rfl) (a_cons (dv 4) a_nil))))) (d_back (dv 2)))))) (ss_cons (s_ret d_bl)
    ss_nil) ss_nil)
    (ss_cons (s_ret (d_and (d_cmp (o_eq hr.units) (d_callF (x := "shown_book") F_shown_book tk (hr.mono (by decide)) (by rfl) (a_cons (d_back (dv 1)) a_nil)) (d_join d_str (d_back (dv 2)))) (d_one (d_cmp (o_eq hr.units) (d_callF (x := "shown_book") F_shown_book tk (hr.mono (by decide)) (by rfl) (a_cons (dv 1) a_nil)) (d_join d_str (dv 2))))))
    ss_nil)))))))
end
theorem all_mk {l : PySem.W.OpenLaw} {w : World} {K : PySem.W.Frag} {h : Heap} {mg : Str → Option Value} {fa : Addr} {xs : XS} (X : K.In h) (G : h.Ns mainGlobals mg) (hfa : mg "law" = some (.ref fa))
    {f0 : Addr} {od0 an0 : Option Addr} {sl0 : Array (Option Value)} {oc0 kV0 dc0 pm0 cd0 ct0 : Value}
    (a0 : PySem.W.nsIn K mainGlobals "_law_fitted" = some (some (.ref f0))) (l0 : K.lookup f0 = some ⟨oc0, od0, .func (PySem.W.fnOf "_law_fitted" "_law_fitted" (defArgs s_l_fitted) (defBody s_l_fitted) (defScope s_l_fitted) .none kV0 dc0 pm0 an0 cd0 ct0), sl0⟩) (c0 : PySem.W.codeIn K cd0 "_law_fitted" = true) (k0 : PySem.W.keepIn K (.ref f0) = true)
    {f1 : Addr} {od1 an1 : Option Addr} {sl1 : Array (Option Value)} {oc1 kV1 dc1 pm1 cd1 ct1 : Value}
    (a1 : PySem.W.nsIn K mainGlobals "_law_hand" = some (some (.ref f1))) (l1 : K.lookup f1 = some ⟨oc1, od1, .func (PySem.W.fnOf "_law_hand" "_law_hand" (defArgs s_l_hand) (defBody s_l_hand) (defScope s_l_hand) .none kV1 dc1 pm1 an1 cd1 ct1), sl1⟩) (c1 : PySem.W.codeIn K cd1 "_law_hand" = true) (k1 : PySem.W.keepIn K (.ref f1) = true)
    {f2 : Addr} {od2 an2 : Option Addr} {sl2 : Array (Option Value)} {oc2 kV2 dc2 pm2 cd2 ct2 : Value}
    (a2 : PySem.W.nsIn K mainGlobals "_law_draw" = some (some (.ref f2))) (l2 : K.lookup f2 = some ⟨oc2, od2, .func (PySem.W.fnOf "_law_draw" "_law_draw" (defArgs s_l_draw) (defBody s_l_draw) (defScope s_l_draw) .none kV2 dc2 pm2 an2 cd2 ct2), sl2⟩) (c2 : PySem.W.codeIn K cd2 "_law_draw" = true) (k2 : PySem.W.keepIn K (.ref f2) = true)
    {f3 : Addr} {od3 an3 : Option Addr} {sl3 : Array (Option Value)} {oc3 kV3 dc3 pm3 cd3 ct3 : Value}
    (a3 : PySem.W.nsIn K mainGlobals "_law_some" = some (some (.ref f3))) (l3 : K.lookup f3 = some ⟨oc3, od3, .func (PySem.W.fnOf "_law_some" "_law_some" (defArgs s_l_some) (defBody s_l_some) (defScope s_l_some) .none kV3 dc3 pm3 an3 cd3 ct3), sl3⟩) (c3 : PySem.W.codeIn K cd3 "_law_some" = true) (k3 : PySem.W.keepIn K (.ref f3) = true)
    {f4 : Addr} {od4 an4 : Option Addr} {sl4 : Array (Option Value)} {oc4 kV4 dc4 pm4 cd4 ct4 : Value}
    (a4 : PySem.W.nsIn K mainGlobals "_law_words" = some (some (.ref f4))) (l4 : K.lookup f4 = some ⟨oc4, od4, .func (PySem.W.fnOf "_law_words" "_law_words" (defArgs s_l_words) (defBody s_l_words) (defScope s_l_words) .none kV4 dc4 pm4 an4 cd4 ct4), sl4⟩) (c4 : PySem.W.codeIn K cd4 "_law_words" = true) (k4 : PySem.W.keepIn K (.ref f4) = true)
    {f5 : Addr} {od5 an5 : Option Addr} {sl5 : Array (Option Value)} {oc5 kV5 dc5 pm5 cd5 ct5 : Value}
    (a5 : PySem.W.nsIn K mainGlobals "_law_heads" = some (some (.ref f5))) (l5 : K.lookup f5 = some ⟨oc5, od5, .func (PySem.W.fnOf "_law_heads" "_law_heads" (defArgs s_l_heads) (defBody s_l_heads) (defScope s_l_heads) .none kV5 dc5 pm5 an5 cd5 ct5), sl5⟩) (c5 : PySem.W.codeIn K cd5 "_law_heads" = true) (k5 : PySem.W.keepIn K (.ref f5) = true)
    {f6 : Addr} {od6 an6 : Option Addr} {sl6 : Array (Option Value)} {oc6 kV6 dc6 pm6 cd6 ct6 : Value}
    (a6 : PySem.W.nsIn K mainGlobals "_law_args" = some (some (.ref f6))) (l6 : K.lookup f6 = some ⟨oc6, od6, .func (PySem.W.fnOf "_law_args" "_law_args" (defArgs s_l_args) (defBody s_l_args) (defScope s_l_args) .none kV6 dc6 pm6 an6 cd6 ct6), sl6⟩) (c6 : PySem.W.codeIn K cd6 "_law_args" = true) (k6 : PySem.W.keepIn K (.ref f6) = true)
    {f7 : Addr} {od7 an7 : Option Addr} {sl7 : Array (Option Value)} {oc7 kV7 dc7 pm7 cd7 ct7 : Value}
    (a7 : PySem.W.nsIn K mainGlobals "_law_pair" = some (some (.ref f7))) (l7 : K.lookup f7 = some ⟨oc7, od7, .func (PySem.W.fnOf "_law_pair" "_law_pair" (defArgs s_l_pair) (defBody s_l_pair) (defScope s_l_pair) .none kV7 dc7 pm7 an7 cd7 ct7), sl7⟩) (c7 : PySem.W.codeIn K cd7 "_law_pair" = true) (k7 : PySem.W.keepIn K (.ref f7) = true)
    {f8 : Addr} {od8 an8 : Option Addr} {sl8 : Array (Option Value)} {oc8 kV8 dc8 pm8 cd8 ct8 : Value}
    (a8 : PySem.W.nsIn K mainGlobals "_law_number" = some (some (.ref f8))) (l8 : K.lookup f8 = some ⟨oc8, od8, .func (PySem.W.fnOf "_law_number" "_law_number" (defArgs s_l_number) (defBody s_l_number) (defScope s_l_number) .none kV8 dc8 pm8 an8 cd8 ct8), sl8⟩) (c8 : PySem.W.codeIn K cd8 "_law_number" = true) (k8 : PySem.W.keepIn K (.ref f8) = true)
    {f9 : Addr} {od9 an9 : Option Addr} {sl9 : Array (Option Value)} {oc9 kV9 dc9 pm9 cd9 ct9 : Value}
    (a9 : PySem.W.nsIn K mainGlobals "_law_plain" = some (some (.ref f9))) (l9 : K.lookup f9 = some ⟨oc9, od9, .func (PySem.W.fnOf "_law_plain" "_law_plain" (defArgs s_l_plain) (defBody s_l_plain) (defScope s_l_plain) .none kV9 dc9 pm9 an9 cd9 ct9), sl9⟩) (c9 : PySem.W.codeIn K cd9 "_law_plain" = true) (k9 : PySem.W.keepIn K (.ref f9) = true)
    {f10 : Addr} {od10 an10 : Option Addr} {sl10 : Array (Option Value)} {oc10 kV10 dc10 pm10 cd10 ct10 : Value}
    (a10 : PySem.W.nsIn K mainGlobals "_law_more" = some (some (.ref f10))) (l10 : K.lookup f10 = some ⟨oc10, od10, .func (PySem.W.fnOf "_law_more" "_law_more" (defArgs s_l_more) (defBody s_l_more) (defScope s_l_more) .none kV10 dc10 pm10 an10 cd10 ct10), sl10⟩) (c10 : PySem.W.codeIn K cd10 "_law_more" = true) (k10 : PySem.W.keepIn K (.ref f10) = true)
    {f11 : Addr} {od11 an11 : Option Addr} {sl11 : Array (Option Value)} {oc11 kV11 dc11 pm11 cd11 ct11 : Value}
    (a11 : PySem.W.nsIn K mainGlobals "_law_book" = some (some (.ref f11))) (l11 : K.lookup f11 = some ⟨oc11, od11, .func (PySem.W.fnOf "_law_book" "_law_book" (defArgs s_l_book) (defBody s_l_book) (defScope s_l_book) .none kV11 dc11 pm11 an11 cd11 ct11), sl11⟩) (c11 : PySem.W.codeIn K cd11 "_law_book" = true) (k11 : PySem.W.keepIn K (.ref f11) = true)
    {f12 : Addr} {od12 an12 : Option Addr} {sl12 : Array (Option Value)} {oc12 kV12 dc12 pm12 cd12 ct12 : Value}
    (a12 : PySem.W.nsIn K mainGlobals "_law_row_text" = some (some (.ref f12))) (l12 : K.lookup f12 = some ⟨oc12, od12, .func (PySem.W.fnOf "_law_row_text" "_law_row_text" (defArgs s_l_row_text) (defBody s_l_row_text) (defScope s_l_row_text) .none kV12 dc12 pm12 an12 cd12 ct12), sl12⟩) (c12 : PySem.W.codeIn K cd12 "_law_row_text" = true) (k12 : PySem.W.keepIn K (.ref f12) = true)
    {f13 : Addr} {od13 an13 : Option Addr} {sl13 : Array (Option Value)} {oc13 kV13 dc13 pm13 cd13 ct13 : Value}
    (a13 : PySem.W.nsIn K mainGlobals "_law_piece_text" = some (some (.ref f13))) (l13 : K.lookup f13 = some ⟨oc13, od13, .func (PySem.W.fnOf "_law_piece_text" "_law_piece_text" (defArgs s_l_piece_text) (defBody s_l_piece_text) (defScope s_l_piece_text) .none kV13 dc13 pm13 an13 cd13 ct13), sl13⟩) (c13 : PySem.W.codeIn K cd13 "_law_piece_text" = true) (k13 : PySem.W.keepIn K (.ref f13) = true)
    {f14 : Addr} {od14 an14 : Option Addr} {sl14 : Array (Option Value)} {oc14 kV14 dc14 pm14 cd14 ct14 : Value}
    (a14 : PySem.W.nsIn K mainGlobals "goes_over" = some (some (.ref f14))) (l14 : K.lookup f14 = some ⟨oc14, od14, .func (PySem.W.fnOf "goes_over" "goes_over" (defArgs s_goes_over) (defBody s_goes_over) (defScope s_goes_over) .none kV14 dc14 pm14 an14 cd14 ct14), sl14⟩) (c14 : PySem.W.codeIn K cd14 "goes_over" = true) (k14 : PySem.W.keepIn K (.ref f14) = true)
    {f15 : Addr} {od15 an15 : Option Addr} {sl15 : Array (Option Value)} {oc15 kV15 dc15 pm15 cd15 ct15 : Value}
    (a15 : PySem.W.nsIn K mainGlobals "is_word" = some (some (.ref f15))) (l15 : K.lookup f15 = some ⟨oc15, od15, .func (PySem.W.fnOf "is_word" "is_word" (defArgs s_is_word) (defBody s_is_word) (defScope s_is_word) .none kV15 dc15 pm15 an15 cd15 ct15), sl15⟩) (c15 : PySem.W.codeIn K cd15 "is_word" = true) (k15 : PySem.W.keepIn K (.ref f15) = true)
    {f16 : Addr} {od16 an16 : Option Addr} {sl16 : Array (Option Value)} {oc16 kV16 dc16 pm16 cd16 ct16 : Value}
    (a16 : PySem.W.nsIn K mainGlobals "are_args" = some (some (.ref f16))) (l16 : K.lookup f16 = some ⟨oc16, od16, .func (PySem.W.fnOf "are_args" "are_args" (defArgs s_are_args) (defBody s_are_args) (defScope s_are_args) .none kV16 dc16 pm16 an16 cd16 ct16), sl16⟩) (c16 : PySem.W.codeIn K cd16 "are_args" = true) (k16 : PySem.W.keepIn K (.ref f16) = true)
    {f17 : Addr} {od17 an17 : Option Addr} {sl17 : Array (Option Value)} {oc17 kV17 dc17 pm17 cd17 ct17 : Value}
    (a17 : PySem.W.nsIn K mainGlobals "are_leaves" = some (some (.ref f17))) (l17 : K.lookup f17 = some ⟨oc17, od17, .func (PySem.W.fnOf "are_leaves" "are_leaves" (defArgs s_are_leaves) (defBody s_are_leaves) (defScope s_are_leaves) .none kV17 dc17 pm17 an17 cd17 ct17), sl17⟩) (c17 : PySem.W.codeIn K cd17 "are_leaves" = true) (k17 : PySem.W.keepIn K (.ref f17) = true)
    {f18 : Addr} {od18 an18 : Option Addr} {sl18 : Array (Option Value)} {oc18 kV18 dc18 pm18 cd18 ct18 : Value}
    (a18 : PySem.W.nsIn K mainGlobals "is_whole" = some (some (.ref f18))) (l18 : K.lookup f18 = some ⟨oc18, od18, .func (PySem.W.fnOf "is_whole" "is_whole" (defArgs s_is_whole) (defBody s_is_whole) (defScope s_is_whole) .none kV18 dc18 pm18 an18 cd18 ct18), sl18⟩) (c18 : PySem.W.codeIn K cd18 "is_whole" = true) (k18 : PySem.W.keepIn K (.ref f18) = true)
    {f19 : Addr} {od19 an19 : Option Addr} {sl19 : Array (Option Value)} {oc19 kV19 dc19 pm19 cd19 ct19 : Value}
    (a19 : PySem.W.nsIn K mainGlobals "is_number" = some (some (.ref f19))) (l19 : K.lookup f19 = some ⟨oc19, od19, .func (PySem.W.fnOf "is_number" "is_number" (defArgs s_is_number) (defBody s_is_number) (defScope s_is_number) .none kV19 dc19 pm19 an19 cd19 ct19), sl19⟩) (c19 : PySem.W.codeIn K cd19 "is_number" = true) (k19 : PySem.W.keepIn K (.ref f19) = true)
    {f20 : Addr} {od20 an20 : Option Addr} {sl20 : Array (Option Value)} {oc20 kV20 dc20 pm20 cd20 ct20 : Value}
    (a20 : PySem.W.nsIn K mainGlobals "is_part" = some (some (.ref f20))) (l20 : K.lookup f20 = some ⟨oc20, od20, .func (PySem.W.fnOf "is_part" "is_part" (defArgs s_is_part) (defBody s_is_part) (defScope s_is_part) .none kV20 dc20 pm20 an20 cd20 ct20), sl20⟩) (c20 : PySem.W.codeIn K cd20 "is_part" = true) (k20 : PySem.W.keepIn K (.ref f20) = true)
    {f21 : Addr} {od21 an21 : Option Addr} {sl21 : Array (Option Value)} {oc21 kV21 dc21 pm21 cd21 ct21 : Value}
    (a21 : PySem.W.nsIn K mainGlobals "is_row" = some (some (.ref f21))) (l21 : K.lookup f21 = some ⟨oc21, od21, .func (PySem.W.fnOf "is_row" "is_row" (defArgs s_is_row) (defBody s_is_row) (defScope s_is_row) .none kV21 dc21 pm21 an21 cd21 ct21), sl21⟩) (c21 : PySem.W.codeIn K cd21 "is_row" = true) (k21 : PySem.W.keepIn K (.ref f21) = true)
    {f22 : Addr} {od22 an22 : Option Addr} {sl22 : Array (Option Value)} {oc22 kV22 dc22 pm22 cd22 ct22 : Value}
    (a22 : PySem.W.nsIn K mainGlobals "bad_row" = some (some (.ref f22))) (l22 : K.lookup f22 = some ⟨oc22, od22, .func (PySem.W.fnOf "bad_row" "bad_row" (defArgs s_bad_row) (defBody s_bad_row) (defScope s_bad_row) .none kV22 dc22 pm22 an22 cd22 ct22), sl22⟩) (c22 : PySem.W.codeIn K cd22 "bad_row" = true) (k22 : PySem.W.keepIn K (.ref f22) = true)
    {f23 : Addr} {od23 an23 : Option Addr} {sl23 : Array (Option Value)} {oc23 kV23 dc23 pm23 cd23 ct23 : Value}
    (a23 : PySem.W.nsIn K mainGlobals "is_head" = some (some (.ref f23))) (l23 : K.lookup f23 = some ⟨oc23, od23, .func (PySem.W.fnOf "is_head" "is_head" (defArgs s_is_head) (defBody s_is_head) (defScope s_is_head) .none kV23 dc23 pm23 an23 cd23 ct23), sl23⟩) (c23 : PySem.W.codeIn K cd23 "is_head" = true) (k23 : PySem.W.keepIn K (.ref f23) = true)
    {f24 : Addr} {od24 an24 : Option Addr} {sl24 : Array (Option Value)} {oc24 kV24 dc24 pm24 cd24 ct24 : Value}
    (a24 : PySem.W.nsIn K mainGlobals "leaves_in" = some (some (.ref f24))) (l24 : K.lookup f24 = some ⟨oc24, od24, .func (PySem.W.fnOf "leaves_in" "leaves_in" (defArgs s_leaves_in) (defBody s_leaves_in) (defScope s_leaves_in) .none kV24 dc24 pm24 an24 cd24 ct24), sl24⟩) (c24 : PySem.W.codeIn K cd24 "leaves_in" = true) (k24 : PySem.W.keepIn K (.ref f24) = true)
    {f25 : Addr} {od25 an25 : Option Addr} {sl25 : Array (Option Value)} {oc25 kV25 dc25 pm25 cd25 ct25 : Value}
    (a25 : PySem.W.nsIn K mainGlobals "words_of" = some (some (.ref f25))) (l25 : K.lookup f25 = some ⟨oc25, od25, .func (PySem.W.fnOf "words_of" "words_of" (defArgs s_words_of) (defBody s_words_of) (defScope s_words_of) .none kV25 dc25 pm25 an25 cd25 ct25), sl25⟩) (c25 : PySem.W.codeIn K cd25 "words_of" = true) (k25 : PySem.W.keepIn K (.ref f25) = true)
    {f26 : Addr} {od26 an26 : Option Addr} {sl26 : Array (Option Value)} {oc26 kV26 dc26 pm26 cd26 ct26 : Value}
    (a26 : PySem.W.nsIn K mainGlobals "roster_in" = some (some (.ref f26))) (l26 : K.lookup f26 = some ⟨oc26, od26, .func (PySem.W.fnOf "roster_in" "roster_in" (defArgs s_roster_in) (defBody s_roster_in) (defScope s_roster_in) .none kV26 dc26 pm26 an26 cd26 ct26), sl26⟩) (c26 : PySem.W.codeIn K cd26 "roster_in" = true) (k26 : PySem.W.keepIn K (.ref f26) = true)
    {f27 : Addr} {od27 an27 : Option Addr} {sl27 : Array (Option Value)} {oc27 kV27 dc27 pm27 cd27 ct27 : Value}
    (a27 : PySem.W.nsIn K mainGlobals "look_at_book" = some (some (.ref f27))) (l27 : K.lookup f27 = some ⟨oc27, od27, .func (PySem.W.fnOf "look_at_book" "look_at_book" (defArgs s_look_at_book) (defBody s_look_at_book) (defScope s_look_at_book) .none kV27 dc27 pm27 an27 cd27 ct27), sl27⟩) (c27 : PySem.W.codeIn K cd27 "look_at_book" = true) (k27 : PySem.W.keepIn K (.ref f27) = true)
    {f28 : Addr} {od28 an28 : Option Addr} {sl28 : Array (Option Value)} {oc28 kV28 dc28 pm28 cd28 ct28 : Value}
    (a28 : PySem.W.nsIn K mainGlobals "part_shown" = some (some (.ref f28))) (l28 : K.lookup f28 = some ⟨oc28, od28, .func (PySem.W.fnOf "part_shown" "part_shown" (defArgs s_part_shown) (defBody s_part_shown) (defScope s_part_shown) .none kV28 dc28 pm28 an28 cd28 ct28), sl28⟩) (c28 : PySem.W.codeIn K cd28 "part_shown" = true) (k28 : PySem.W.keepIn K (.ref f28) = true)
    {f29 : Addr} {od29 an29 : Option Addr} {sl29 : Array (Option Value)} {oc29 kV29 dc29 pm29 cd29 ct29 : Value}
    (a29 : PySem.W.nsIn K mainGlobals "shown_row" = some (some (.ref f29))) (l29 : K.lookup f29 = some ⟨oc29, od29, .func (PySem.W.fnOf "shown_row" "shown_row" (defArgs s_shown_row) (defBody s_shown_row) (defScope s_shown_row) .none kV29 dc29 pm29 an29 cd29 ct29), sl29⟩) (c29 : PySem.W.codeIn K cd29 "shown_row" = true) (k29 : PySem.W.keepIn K (.ref f29) = true)
    {f30 : Addr} {od30 an30 : Option Addr} {sl30 : Array (Option Value)} {oc30 kV30 dc30 pm30 cd30 ct30 : Value}
    (a30 : PySem.W.nsIn K mainGlobals "piece_shown" = some (some (.ref f30))) (l30 : K.lookup f30 = some ⟨oc30, od30, .func (PySem.W.fnOf "piece_shown" "piece_shown" (defArgs s_piece_shown) (defBody s_piece_shown) (defScope s_piece_shown) .none kV30 dc30 pm30 an30 cd30 ct30), sl30⟩) (c30 : PySem.W.codeIn K cd30 "piece_shown" = true) (k30 : PySem.W.keepIn K (.ref f30) = true)
    {f31 : Addr} {od31 an31 : Option Addr} {sl31 : Array (Option Value)} {oc31 kV31 dc31 pm31 cd31 ct31 : Value}
    (a31 : PySem.W.nsIn K mainGlobals "shown_book" = some (some (.ref f31))) (l31 : K.lookup f31 = some ⟨oc31, od31, .func (PySem.W.fnOf "shown_book" "shown_book" (defArgs s_shown_book) (defBody s_shown_book) (defScope s_shown_book) .none kV31 dc31 pm31 an31 cd31 ct31), sl31⟩) (c31 : PySem.W.codeIn K cd31 "shown_book" = true) (k31 : PySem.W.keepIn K (.ref f31) = true)
    {f32 : Addr} {od32 an32 : Option Addr} {sl32 : Array (Option Value)} {oc32 kV32 dc32 pm32 cd32 ct32 : Value}
    (a32 : PySem.W.nsIn K mainGlobals "shown_piece" = some (some (.ref f32))) (l32 : K.lookup f32 = some ⟨oc32, od32, .func (PySem.W.fnOf "shown_piece" "shown_piece" (defArgs s_shown_piece) (defBody s_shown_piece) (defScope s_shown_piece) .none kV32 dc32 pm32 an32 cd32 ct32), sl32⟩) (c32 : PySem.W.codeIn K cd32 "shown_piece" = true) (k32 : PySem.W.keepIn K (.ref f32) = true)
    {f33 : Addr} {od33 an33 : Option Addr} {sl33 : Array (Option Value)} {oc33 kV33 dc33 pm33 cd33 ct33 : Value}
    (a33 : PySem.W.nsIn K mainGlobals "law" = some (some (.ref f33))) (l33 : K.lookup f33 = some ⟨oc33, od33, .func (PySem.W.fnOf "law" "law" (defArgs s_law) (defBody s_law) (defScope s_law) .none kV33 dc33 pm33 an33 cd33 ct33), sl33⟩) (c33 : PySem.W.codeIn K cd33 "law" = true) (k33 : PySem.W.keepIn K (.ref f33) = true)
    (z_abs : PySem.W.nsIn K mainGlobals "abs" = some none)
    (z_all : PySem.W.nsIn K mainGlobals "all" = some none)
    (z_bool : PySem.W.nsIn K mainGlobals "bool" = some none)
    (z_enumerate : PySem.W.nsIn K mainGlobals "enumerate" = some none)
    (z_int : PySem.W.nsIn K mainGlobals "int" = some none)
    (z_isinstance : PySem.W.nsIn K mainGlobals "isinstance" = some none)
    (z_len : PySem.W.nsIn K mainGlobals "len" = some none)
    (z_list : PySem.W.nsIn K mainGlobals "list" = some none)
    (z_max : PySem.W.nsIn K mainGlobals "max" = some none)
    (z_min : PySem.W.nsIn K mainGlobals "min" = some none)
    (z_range : PySem.W.nsIn K mainGlobals "range" = some none)
    (z_set : PySem.W.nsIn K mainGlobals "set" = some none)
    (z_sorted : PySem.W.nsIn K mainGlobals "sorted" = some none)
    (z_str : PySem.W.nsIn K mainGlobals "str" = some none)
    (z_tuple : PySem.W.nsIn K mainGlobals "tuple" = some none)
    (z_zip : PySem.W.nsIn K mainGlobals "zip" = some none)
    {t_GREATEST : Tok} (z_GREATEST : PySem.W.nsIn K mainGlobals "GREATEST" = some (some (Value.int 1000000000000000000 t_GREATEST)))
    {t_LETTERS : Tok} (z_LETTERS : PySem.W.nsIn K mainGlobals "LETTERS" = some (some (Value.str (Str.ofString "abcdefghijklmnopqrstuvwxyz") t_LETTERS)))
    {t_LONGEST : Tok} (z_LONGEST : PySem.W.nsIn K mainGlobals "LONGEST" = some (some (Value.int 8 t_LONGEST)))
    {t_MOST : Tok} (z_MOST : PySem.W.nsIn K mainGlobals "MOST" = some (some (Value.int 8 t_MOST)))
    {t_MOST_ARGS : Tok} (z_MOST_ARGS : PySem.W.nsIn K mainGlobals "MOST_ARGS" = some (some (Value.int 4 t_MOST_ARGS)))
    {t_MOST_LEAVES : Tok} (z_MOST_LEAVES : PySem.W.nsIn K mainGlobals "MOST_LEAVES" = some (some (Value.int 8 t_MOST_LEAVES)))
    {t_MOST_PIECES : Tok} (z_MOST_PIECES : PySem.W.nsIn K mainGlobals "MOST_PIECES" = some (some (Value.int 12 t_MOST_PIECES)))
    {t_MOST_ROWS : Tok} (z_MOST_ROWS : PySem.W.nsIn K mainGlobals "MOST_ROWS" = some (some (Value.int 60 t_MOST_ROWS)))
    {d_PARTS : Addr} {e_PARTS : Array DictEntry} {n_PARTS : Nat} (z_PARTS : PySem.W.nsIn K mainGlobals "PARTS" = some (some (.ref d_PARTS))) (q_PARTS : K.lookup d_PARTS = some ⟨.type "dict", none, .dict e_PARTS n_PARTS, #[]⟩) (r_PARTS : PySem.W.KeysLit w.params e_PARTS.toList) (o_PARTS : (d_PARTS == sysModules) = false) (u_PARTS : kEnts K tab_PARTS e_PARTS.toList = true)
    : ∃ fd : FuncData, (∀ (s : Shared) (v : Value), BindsTo s fd ⟨[v], []⟩ [("_law_script", v)]) ∧ ∀ base : Heap, K.In base → base.Ns mainGlobals mg → FnOk l.prog w K mg base (L2.CX l.prog w) 8 fa fd [Str.ofString "_law_script"] (spD K xs 1 f_law) := by
  have T : Tx K w mg := ⟨PySem.W.mg_none_of X G z_abs, PySem.W.mg_none_of X G z_all, PySem.W.mg_none_of X G z_bool, PySem.W.mg_none_of X G z_enumerate, PySem.W.mg_none_of X G z_int, PySem.W.mg_none_of X G z_isinstance, PySem.W.mg_none_of X G z_len, PySem.W.mg_none_of X G z_list, PySem.W.mg_none_of X G z_max, PySem.W.mg_none_of X G z_min, PySem.W.mg_none_of X G z_range, PySem.W.mg_none_of X G z_set, PySem.W.mg_none_of X G z_sorted, PySem.W.mg_none_of X G z_str, PySem.W.mg_none_of X G z_tuple, PySem.W.mg_none_of X G z_zip, ⟨_, PySem.W.mg_of X G z_GREATEST⟩, ⟨_, PySem.W.mg_of X G z_LETTERS⟩, ⟨_, PySem.W.mg_of X G z_LONGEST⟩, ⟨_, PySem.W.mg_of X G z_MOST⟩, ⟨_, PySem.W.mg_of X G z_MOST_ARGS⟩, ⟨_, PySem.W.mg_of X G z_MOST_LEAVES⟩, ⟨_, PySem.W.mg_of X G z_MOST_PIECES⟩, ⟨_, PySem.W.mg_of X G z_MOST_ROWS⟩, ⟨_, _, _, PySem.W.mg_of X G z_PARTS, ⟨q_PARTS, r_PARTS, o_PARTS⟩, u_PARTS⟩⟩
  have e := hfa.symm.trans (PySem.W.mg_of X G a33)
  cases e
  have FL := fun_mk (st := s_law) l33 c33 k33
  refine ⟨PySem.W.fnOf "law" "law" (defArgs s_law) (defBody s_law) (defScope s_law) .none kV33 dc33 pm33 an33 cd33 ct33, fun s v => .of_eq rfl, fun base _ _ => ?_⟩
  have F_l_fitted : Fn l.prog w K mg base xs "_law_fitted" 1 1 f_l_fitted := fn_mk X G a0 l0 c0 k0 sc_l_fitted (fun us hl => match us, hl with | [_], _ => rfl) rfl rfl (fun f fd F => ok_l_fitted T  F)
  have F_l_hand : Fn l.prog w K mg base xs "_law_hand" 1 2 f_l_hand := fn_mk X G a1 l1 c1 k1 sc_l_hand (fun us hl => match us, hl with | [_, _], _ => rfl) rfl rfl (fun f fd F => ok_l_hand T  F)
  have F_l_draw : Fn l.prog w K mg base xs "_law_draw" 1 2 f_l_draw := fn_mk X G a2 l2 c2 k2 sc_l_draw (fun us hl => match us, hl with | [_, _], _ => rfl) rfl rfl (fun f fd F => ok_l_draw T  F)
  have F_l_some : Fn l.prog w K mg base xs "_law_some" 2 3 f_l_some := fn_mk X G a3 l3 c3 k3 sc_l_some (fun us hl => match us, hl with | [_, _, _], _ => rfl) rfl rfl (fun f fd F => ok_l_some T F_l_draw F)
  have F_l_words : Fn l.prog w K mg base xs "_law_words" 2 2 f_l_words := fn_mk X G a4 l4 c4 k4 sc_l_words (fun us hl => match us, hl with | [_, _], _ => rfl) rfl rfl (fun f fd F => ok_l_words T F_l_draw F)
  have F_l_heads : Fn l.prog w K mg base xs "_law_heads" 3 2 f_l_heads := fn_mk X G a5 l5 c5 k5 sc_l_heads (fun us hl => match us, hl with | [_, _], _ => rfl) rfl rfl (fun f fd F => ok_l_heads T F_l_draw F_l_hand F_l_some F_l_words F)
  have F_l_args : Fn l.prog w K mg base xs "_law_args" 2 3 f_l_args := fn_mk X G a6 l6 c6 k6 sc_l_args (fun us hl => match us, hl with | [_, _, _], _ => rfl) rfl rfl (fun f fd F => ok_l_args T F_l_draw F)
  have F_l_pair : Fn l.prog w K mg base xs "_law_pair" 3 2 f_l_pair := fn_mk X G a7 l7 c7 k7 sc_l_pair (fun us hl => match us, hl with | [_, _], _ => rfl) rfl rfl (fun f fd F => ok_l_pair T F_l_args F_l_draw F_l_some F)
  have F_l_number : Fn l.prog w K mg base xs "_law_number" 2 1 f_l_number := fn_mk X G a8 l8 c8 k8 sc_l_number (fun us hl => match us, hl with | [_], _ => rfl) rfl rfl (fun f fd F => ok_l_number T F_l_draw F)
  have F_l_plain : Fn l.prog w K mg base xs "_law_plain" 3 3 f_l_plain := fn_mk X G a9 l9 c9 k9 sc_l_plain (fun us hl => match us, hl with | [_, _, _], _ => rfl) rfl rfl (fun f fd F => ok_l_plain T F_l_args F_l_draw F_l_number F)
  have F_l_more : Fn l.prog w K mg base xs "_law_more" 4 2 f_l_more := fn_mk X G a10 l10 c10 k10 sc_l_more (fun us hl => match us, hl with | [_, _], _ => rfl) rfl rfl (fun f fd F => ok_l_more T F_l_args F_l_draw F_l_pair F_l_plain F_l_some F)
  have F_l_book : Fn l.prog w K mg base xs "_law_book" 5 3 f_l_book := fn_mk X G a11 l11 c11 k11 sc_l_book (fun us hl => match us, hl with | [_, _, _], _ => rfl) rfl rfl (fun f fd F => ok_l_book T F_l_fitted F_l_hand F_l_heads F_l_more F)
  have F_l_row_text : Fn l.prog w K mg base xs "_law_row_text" 1 1 f_l_row_text := fn_mk X G a12 l12 c12 k12 sc_l_row_text (fun us hl => match us, hl with | [_], _ => rfl) rfl rfl (fun f fd F => ok_l_row_text T  F)
  have F_l_piece_text : Fn l.prog w K mg base xs "_law_piece_text" 2 1 f_l_piece_text := fn_mk X G a13 l13 c13 k13 sc_l_piece_text (fun us hl => match us, hl with | [_], _ => rfl) rfl rfl (fun f fd F => ok_l_piece_text T F_l_row_text F)
  have F_goes_over : Fn l.prog w K mg base xs "goes_over" 1 1 f_goes_over := fn_mk X G a14 l14 c14 k14 sc_goes_over (fun us hl => match us, hl with | [_], _ => rfl) rfl rfl (fun f fd F => ok_goes_over T  F)
  have F_is_word : Fn l.prog w K mg base xs "is_word" 1 1 f_is_word := fn_mk X G a15 l15 c15 k15 sc_is_word (fun us hl => match us, hl with | [_], _ => rfl) rfl rfl (fun f fd F => ok_is_word T  F)
  have F_are_args : Fn l.prog w K mg base xs "are_args" 2 1 f_are_args := fn_mk X G a16 l16 c16 k16 sc_are_args (fun us hl => match us, hl with | [_], _ => rfl) rfl rfl (fun f fd F => ok_are_args T F_is_word F)
  have F_are_leaves : Fn l.prog w K mg base xs "are_leaves" 2 1 f_are_leaves := fn_mk X G a17 l17 c17 k17 sc_are_leaves (fun us hl => match us, hl with | [_], _ => rfl) rfl rfl (fun f fd F => ok_are_leaves T F_is_word F)
  have F_is_whole : Fn l.prog w K mg base xs "is_whole" 1 1 f_is_whole := fn_mk X G a18 l18 c18 k18 sc_is_whole (fun us hl => match us, hl with | [_], _ => rfl) rfl rfl (fun f fd F => ok_is_whole T  F)
  have F_is_number : Fn l.prog w K mg base xs "is_number" 2 1 f_is_number := fn_mk X G a19 l19 c19 k19 sc_is_number (fun us hl => match us, hl with | [_], _ => rfl) rfl rfl (fun f fd F => ok_is_number T F_is_whole F)
  have F_is_part : Fn l.prog w K mg base xs "is_part" 3 2 f_is_part := fn_mk X G a20 l20 c20 k20 sc_is_part (fun us hl => match us, hl with | [_, _], _ => rfl) rfl rfl (fun f fd F => ok_is_part T F_are_args F_are_leaves F_is_number F_is_whole F_is_word F)
  have F_is_row : Fn l.prog w K mg base xs "is_row" 4 1 f_is_row := fn_mk X G a21 l21 c21 k21 sc_is_row (fun us hl => match us, hl with | [_], _ => rfl) rfl rfl (fun f fd F => ok_is_row T F_is_part F)
  have F_bad_row : Fn l.prog w K mg base xs "bad_row" 5 1 f_bad_row := fn_mk X G a22 l22 c22 k22 sc_bad_row (fun us hl => match us, hl with | [_], _ => rfl) rfl rfl (fun f fd F => ok_bad_row T F_goes_over F_is_row F)
  have F_is_head : Fn l.prog w K mg base xs "is_head" 3 1 f_is_head := fn_mk X G a23 l23 c23 k23 sc_is_head (fun us hl => match us, hl with | [_], _ => rfl) rfl rfl (fun f fd F => ok_is_head T F_are_args F_are_leaves F_is_word F)
  have F_leaves_in : Fn l.prog w K mg base xs "leaves_in" 1 1 f_leaves_in := fn_mk X G a24 l24 c24 k24 sc_leaves_in (fun us hl => match us, hl with | [_], _ => rfl) rfl rfl (fun f fd F => ok_leaves_in T  F)
  have F_words_of : Fn l.prog w K mg base xs "words_of" 2 1 f_words_of := fn_mk X G a25 l25 c25 k25 sc_words_of (fun us hl => match us, hl with | [_], _ => rfl) rfl rfl (fun f fd F => ok_words_of T F_leaves_in F)
  have F_roster_in : Fn l.prog w K mg base xs "roster_in" 3 1 f_roster_in := fn_mk X G a26 l26 c26 k26 sc_roster_in (fun us hl => match us, hl with | [_], _ => rfl) rfl rfl (fun f fd F => ok_roster_in T F_words_of F)
  have F_look_at_book : Fn l.prog w K mg base xs "look_at_book" 6 1 f_look_at_book := fn_mk X G a27 l27 c27 k27 sc_look_at_book (fun us hl => match us, hl with | [_], _ => rfl) rfl rfl (fun f fd F => ok_look_at_book T F_bad_row F_is_head F_roster_in F)
  have F_part_shown : Fn l.prog w K mg base xs "part_shown" 1 2 f_part_shown := fn_mk X G a28 l28 c28 k28 sc_part_shown (fun us hl => match us, hl with | [_, _], _ => rfl) rfl rfl (fun f fd F => ok_part_shown T  F)
  have F_shown_row : Fn l.prog w K mg base xs "shown_row" 2 1 f_shown_row := fn_mk X G a29 l29 c29 k29 sc_shown_row (fun us hl => match us, hl with | [_], _ => rfl) rfl rfl (fun f fd F => ok_shown_row T F_part_shown F)
  have F_piece_shown : Fn l.prog w K mg base xs "piece_shown" 3 1 f_piece_shown := fn_mk X G a30 l30 c30 k30 sc_piece_shown (fun us hl => match us, hl with | [_], _ => rfl) rfl rfl (fun f fd F => ok_piece_shown T F_shown_row F)
  have F_shown_book : Fn l.prog w K mg base xs "shown_book" 7 1 f_shown_book := fn_mk X G a31 l31 c31 k31 sc_shown_book (fun us hl => match us, hl with | [_], _ => rfl) rfl rfl (fun f fd F => ok_shown_book T F_look_at_book F_piece_shown F)
  have F_shown_piece : Fn l.prog w K mg base xs "shown_piece" 7 1 f_shown_piece := fn_mk X G a32 l32 c32 k32 sc_shown_piece (fun us hl => match us, hl with | [_], _ => rfl) rfl rfl (fun f fd F => ok_shown_piece T F_look_at_book F_piece_shown F)
  exact ok_law T F_l_book F_l_piece_text F_shown_book F_shown_piece FL
end T_allcallers_k10_shown
namespace T_allcallers_k10_shown
open PySem L2 D C TX
theorem book_eq : f_l_book = G2.f_l_book := rfl
theorem ptext_eq : f_l_piece_text = TX.f_l_piece_text := rfl
theorem pshown_eq : f_piece_shown = TX.f_piece_shown := rfl
theorem look_ev (b : List Piece) (hg : goodB b) (hw : (wordsB b).length < 4000) (st : Store) : f_look_at_book [bookU b] st = .ok .non st := look_good (refuses_bad st) b hg hw
theorem shown_book_ev (b : List Piece) (hg : goodB b) (hw : (wordsB b).length < 4000) (st : Store) : f_shown_book [bookU b] st = .ok (.str (bookT b)) st := by
  have e1 := look_ev b hg hw st
  have hl : b.length ≤ 12 := hg.2.1
  have it : items (bookU b) = some (b.map Piece.u) := rfl
  have lz : (b.map Piece.u).length ≤ 16777216 := by rw [List.length_map]; omega
  have cm : ∀ a0 : Sl, compL (tgN 1) yesT (appU f_piece_shown (acons (var 1) anil)) (b.map Piece.u) [a0, .un] st = .ok ((b.map pieceT).map U.str) st := fun a0 => by
    rw [List.map_map]
    exact comp_allM b fun p hp => ⟨_, rfl, by
      have := piece_shown_ev (hg.2.2.1 p hp) st
      rw [← pshown_eq] at this
      generalize p.u = PU at *
      simp [this]⟩
  have bj : join2 (Str.ofString "\n") (.lst ((b.map pieceT).map U.str)) = some (.str (bookT b)) := book_join b hg.2.2.1 (by omega)
  unfold f_shown_book b_shown_book
  generalize (b.map pieceT).map U.str = TT at *
  generalize b.map Piece.u = BB at *
  generalize bookU b = BU at *
  simp [e1, it, lz, wipeE, cm, bj]
theorem shown_piece_ev (p : Piece) (hg : goodB [p]) (hw : (wordsB [p]).length < 4000) (st : Store) : f_shown_piece [p.u] st = .ok (.str (pieceT p)) st := by
  have e1 : f_look_at_book [.lst [p.u]] st = .ok .non st := look_ev [p] hg hw st
  have e2 := piece_shown_ev (hg.2.2.1 p (by simp)) st
  rw [← pshown_eq] at e2
  unfold f_shown_piece b_shown_piece
  generalize p.u = PU at *
  simp [e1, e2]
theorem noRefs_all : ∀ us : List U, (∀ u ∈ us, noRef u = true) → noRefs us = true
  | [], _ => by unfold noRefs; rfl
  | u :: us, h => by
    unfold noRefs
    rw [h u (List.mem_cons_self ..), noRefs_all us fun v hv => h v (List.mem_cons_of_mem _ hv)]
    rfl
theorem noRef_txt (ws : List Str) : noRef (tS ws) = true := by
  unfold noRef
  exact noRefs_all _ fun u hu => by
    obtain ⟨w, _, rfl⟩ := List.mem_map.mp hu
    unfold noRef; rfl
theorem noRef_str (w : Str) : noRef (.str w) = true := by unfold noRef; rfl
theorem noRef_int (w : Int) : noRef (.int w) = true := by unfold noRef; rfl
theorem noRef_tup {us : List U} (h : ∀ u ∈ us, noRef u = true) : noRef (.tup us) = true := by unfold noRef; exact noRefs_all us h
theorem noRef_row (r : Row) : noRef r.u = true := by
  have W : ∀ a, noRef (pW a).2.1 = true := fun a => noRef_str a
  have N : ∀ a, noRef (pN a).2.1 = true := fun a => noRef_int a
  have O : ∀ a, noRef (pO a).2.1 = true := fun a => noRef_int a
  have A : ∀ a, noRef (pA a).2.1 = true := fun a => noRef_txt a
  have L : ∀ a, noRef (pL a).2.1 = true := fun a => noRef_txt a
  have key : ∀ p ∈ pt r, noRef p.2.1 = true := by
    cases r with
    | set x n => exact mem2 (P := fun p => noRef p.2.1 = true) (W _) (N _)
    | same x n => exact mem2 (P := fun p => noRef p.2.1 = true) (W _) (W _)
    | sum x a b => exact memC (P := fun p => noRef p.2.1 = true) (W _) (mem2 (W _) (W _))
    | less x a b => exact memC (P := fun p => noRef p.2.1 = true) (W _) (mem2 (W _) (W _))
    | hold x n as => exact memC (P := fun p => noRef p.2.1 = true) (W _) (mem2 (W _) (A _))
    | call x f as vs => exact memC (P := fun p => noRef p.2.1 = true) (W _) (memC (W _) (mem2 (A _) (L _)))
    | last f as vs => exact memC (P := fun p => noRef p.2.1 = true) (W _) (mem2 (A _) (L _))
    | give a => exact mem1 (P := fun p => noRef p.2.1 = true) (W _)
    | keep x n => exact mem2 (P := fun p => noRef p.2.1 = true) (W _) (W _)
    | kept x n => exact mem2 (P := fun p => noRef p.2.1 = true) (W _) (W _)
    | skip x n => exact mem2 (P := fun p => noRef p.2.1 = true) (W _) (O _)
    | over n => exact mem1 (P := fun p => noRef p.2.1 = true) (O _)
    | on => exact fun p hp => nomatch hp
    | count => exact fun p hp => nomatch hp
    | ask x n => exact mem2 (P := fun p => noRef p.2.1 = true) (W _) (O _)
    | deed x n => exact mem2 (P := fun p => noRef p.2.1 = true) (W _) (W _)
    | done x n => exact mem2 (P := fun p => noRef p.2.1 = true) (W _) (W _)
  rw [row_pt]
  refine noRef_tup fun u hu => ?_
  rcases List.mem_cons.mp hu with rfl | hu
  · exact noRef_str _
  · obtain ⟨p, hp, rfl⟩ := List.mem_map.mp hu
    exact key p hp
theorem noRef_piece (p : Piece) : noRef p.u = true := by
  refine noRef_tup fun u hu => ?_
  simp only [List.mem_cons, List.not_mem_nil, or_false] at hu
  rcases hu with rfl | rfl | rfl | rfl
  · exact noRef_str _
  · exact noRef_txt _
  · exact noRef_txt _
  · exact noRef_tup fun u hu => by
      obtain ⟨r, _, rfl⟩ := List.mem_map.mp hu
      exact noRef_row r
theorem noRefs_book (b : List Piece) : noRefs (b.map Piece.u) = true := noRefs_all _ fun u hu => by
  obtain ⟨p, _, rfl⟩ := List.mem_map.mp hu
  exact noRef_piece p
set_option maxHeartbeats 4000000 in
theorem law_true (ns : List Int) (h : ns.length ≤ 63) : ∃ st', f_law [.scr ns] [] = .ok (.bl true) st' := by
  obtain ⟨b, k, st, e1, hk, hb⟩ := G2.book_ok ns 6 1 (by decide) (by decide) (by decide) []
  have e1 : f_l_book [.scr ns, .int 6, .int 1] [] = .ok (.tup [bookU b, lS k.roster, lS k.pool]) st := e1
  obtain ⟨hg, hw⟩ := G2.good_of hk hb
  have hl : b.length ≤ 8 := by rw [hb.len]; exact hk.len2
  have h1 : 1 ≤ b.length := by rw [hb.len]; exact hk.len
  have hgr : goodB b.reverse := ⟨by rw [List.length_reverse]; exact h1, by rw [List.length_reverse]; omega, fun p hp => hb.ok p (List.mem_reverse.mp hp), by rw [List.map_reverse]; exact (List.reverse_perm _).nodup_iff.mpr hg.2.2.2.1, by
    have : rosterB b.reverse = rosterB b := by
      unfold rosterB
      have pm : (dedS (wordsB b.reverse)).Perm (dedS (wordsB b)) := by
        refine (List.perm_ext_iff_of_nodup (ded_nodup _) (ded_nodup _)).mpr fun w => ?_
        rw [ded_mem, ded_mem]
        unfold wordsB
        rw [List.mem_flatMap, List.mem_flatMap]
        constructor
        · rintro ⟨p, hp, q⟩; exact ⟨p, List.mem_reverse.mp hp, q⟩
        · rintro ⟨p, hp, q⟩; exact ⟨p, List.mem_reverse.mpr hp, q⟩
      exact sort_congr pm
    rw [this]; exact hg.2.2.2.2⟩
  have few : ∀ c : List Piece, c.length ≤ 8 → (∀ p ∈ c, p ∈ b) → (wordsB c).length < 4000 := fun c hc hcb => by
    unfold wordsB
    have := flat_len Piece.words 488 c fun p hp => by
      have w := words_len (hb.ok p (hcb p hp))
      have l := ((pok_iff p).mp (hb.ok p (hcb p hp))).len2
      omega
    have : c.length * 488 ≤ 8 * 488 := Nat.mul_le_mul_right _ (by omega)
    omega
  have hwr := few b.reverse (by rw [List.length_reverse]; exact hl) fun p hp => List.mem_reverse.mp hp
  have one : ∀ p ∈ b, goodB [p] ∧ (wordsB [p]).length < 4000 := fun p hp => by
    refine ⟨⟨Nat.le_refl _, by simp, fun q hq => ?_, by simp, ?_⟩, few [p] (by simp) fun q hq => ?_⟩
    · rw [List.mem_singleton] at hq; rw [hq]; exact hb.ok p hp
    · unfold rosterB
      rw [(sort_perm _).length_eq]
      have := G1.nodup_len (dedS (wordsB [p])) k.roster (ded_nodup _) fun w hw => by
        rw [ded_mem] at hw
        unfold wordsB at hw
        obtain ⟨q, hq, hw⟩ := List.mem_flatMap.mp hw
        rw [List.mem_singleton] at hq
        rw [hq] at hw
        exact hb.words p hp w hw
      exact Nat.le_trans this hk.r2
    · rw [List.mem_singleton] at hq; rw [hq]; exact hp
  have sb : ∀ st, f_shown_book [.lst (b.map Piece.u)] st = .ok (.str (bookT b)) st := fun st => shown_book_ev b hg hw st
  have sbr : ∀ st, f_shown_book [.lst (b.map Piece.u).reverse] st = .ok (.str (bookT b.reverse)) st := fun st => by
    rw [← List.map_reverse]
    exact shown_book_ev b.reverse hgr hwr st
  have i0 : ix2 (.tup [bookU b, lS k.roster, lS k.pool]) (.int 0) = some (.lst (b.map Piece.u)) := rfl
  have c1 : ∀ a0 a1 a2 a3 : Sl, compL (tgN 4) yesT (appU f_l_piece_text (acons (var 4) anil)) (b.map Piece.u) [a0, a1, a2, a3, .un] st = .ok ((b.map pieceT).map U.str) st := fun a0 a1 a2 a3 => by
    rw [List.map_map]
    exact comp_allM b fun p hp => ⟨_, rfl, by
      have := l_piece_text_ev (hb.ok p hp) st
      rw [← ptext_eq] at this
      generalize p.u = PU at *
      simp [this]⟩
  have c2 : ∀ a0 a1 a2 a3 : Sl, compL (tgN 4) yesT (appU f_shown_piece (acons (var 4) anil)) (b.map Piece.u) [a0, a1, a2, a3, .un] st = .ok ((b.map pieceT).map U.str) st := fun a0 a1 a2 a3 => by
    rw [List.map_map]
    exact comp_allM b fun p hp => ⟨_, rfl, by
      have := shown_piece_ev p (one p hp).1 (one p hp).2 st
      generalize p.u = PU at *
      simp [this]⟩
  have c3 : ∀ a0 a1 a2 a3 : Sl, compL (tgN 4) yesT (appU f_shown_piece (acons (var 4) anil)) (b.map Piece.u).reverse [a0, a1, a2, a3, .un] st = .ok ((b.map pieceT).map U.str).reverse st := fun a0 a1 a2 a3 => by
    rw [← List.map_reverse, ← List.map_reverse, ← List.map_reverse, List.map_map]
    exact comp_allM b.reverse fun p hp => ⟨_, rfl, by
      have hp := List.mem_reverse.mp hp
      have := shown_piece_ev p (one p hp).1 (one p hp).2 st
      generalize p.u = PU at *
      simp [this]⟩
  have j1 : join2 (Str.ofString "\n") (.lst ((b.map pieceT).map U.str)) = some (.str (bookT b)) := book_join b hb.ok (by omega)
  have j2 : join2 (Str.ofString "\n") (.lst ((b.map pieceT).map U.str).reverse) = some (.str (bookT b.reverse)) := by
    rw [← List.map_reverse, ← List.map_reverse]
    exact book_join b.reverse hgr.2.2.1 (by rw [List.length_reverse]; omega)
  have n1 : ne2 (.lst (b.map Piece.u)) (.lst (b.map Piece.u)) = some (.bl false) := ne2_refl (eqOk_book 0 b) (by decide)
  have n2 : ne2 (.lst ((b.map pieceT).map U.str)) (.lst ((b.map pieceT).map U.str)) = some (.bl false) := by
    have := ne_txtL (b.map pieceT) (b.map pieceT)
    rw [decide_eq_true rfl] at this
    exact this
  have n3 : ne2 (.lst ((b.map pieceT).map U.str).reverse) (.lst ((b.map pieceT).map U.str).reverse) = some (.bl false) := by
    rw [← List.map_reverse]
    have := ne_txtL (b.map pieceT).reverse (b.map pieceT).reverse
    rw [decide_eq_true rfl] at this
    exact this
  have nr := noRefs_book b
  have lz : (b.map Piece.u).length ≤ 16777216 := by rw [List.length_map]; omega
  have lp : 0 < (b.map Piece.u).length := by rw [List.length_map]; exact h1
  refine ⟨st, ?_⟩
  generalize hBK : U.tup [bookU b, lS k.roster, lS k.pool] = BK at *
  generalize (b.map pieceT).map U.str = TT at *
  generalize b.map Piece.u = BB at *
  unfold f_law b_law
  simp only [runB_ap, env0_ap, List.length_cons, List.length_nil, List.map_cons, List.map_nil, List.replicate, List.cons_append, List.nil_append]
  simp [e1, i0, lz, wipeE, c1, sb, nr, flatU, j1, n1, lp, c2, c3, n2, n3, sbr, j2]
end T_allcallers_k10_shown
open PySem PySem.W PyProof.Rows
set_option maxHeartbeats 0 in
theorem PySem.Challenge.cw_allcallers_k10_shown_holds : PySem.Challenge.rw_allcallers_k10_shown.Holds := by
  w_on; o_law; k_head; (case hw => w_witness2)
  k_fill
  refine L2.walk_of (l := PySem.Challenge.rw_allcallers_k10_shown) (n := 63) (k := 8) (x := "_law_script") (CX := fun w => L2.CX PySem.Challenge.rw_allcallers_k10_shown.prog w) (sp := fun w => D.spD _ D.noXS 1 T_allcallers_k10_shown.f_law) rfl (by decide) rfl ⟨rfl, by decide, by decide⟩ (fun w h Y => PySem.W.kIn_of Y) ?F (fun _ H a ns hl _ hS => D.law_sp hS (T_allcallers_k10_shown.law_true ns hl)) (fun _ _ _ _ _ h => D.cx_no h)
  case F =>
    intro w mg fa h KX G hmg
    refine' T_allcallers_k10_shown.all_mk KX G hmg ?a0 ?l0 ?c0 ?k0 ?a1 ?l1 ?c1 ?k1 ?a2 ?l2 ?c2 ?k2 ?a3 ?l3 ?c3 ?k3 ?a4 ?l4 ?c4 ?k4 ?a5 ?l5 ?c5 ?k5 ?a6 ?l6 ?c6 ?k6 ?a7 ?l7 ?c7 ?k7 ?a8 ?l8 ?c8 ?k8 ?a9 ?l9 ?c9 ?k9 ?a10 ?l10 ?c10 ?k10 ?a11 ?l11 ?c11 ?k11 ?a12 ?l12 ?c12 ?k12 ?a13 ?l13 ?c13 ?k13 ?a14 ?l14 ?c14 ?k14 ?a15 ?l15 ?c15 ?k15 ?a16 ?l16 ?c16 ?k16 ?a17 ?l17 ?c17 ?k17 ?a18 ?l18 ?c18 ?k18 ?a19 ?l19 ?c19 ?k19 ?a20 ?l20 ?c20 ?k20 ?a21 ?l21 ?c21 ?k21 ?a22 ?l22 ?c22 ?k22 ?a23 ?l23 ?c23 ?k23 ?a24 ?l24 ?c24 ?k24 ?a25 ?l25 ?c25 ?k25 ?a26 ?l26 ?c26 ?k26 ?a27 ?l27 ?c27 ?k27 ?a28 ?l28 ?c28 ?k28 ?a29 ?l29 ?c29 ?k29 ?a30 ?l30 ?c30 ?k30 ?a31 ?l31 ?c31 ?k31 ?a32 ?l32 ?c32 ?k32 ?a33 ?l33 ?c33 ?k33 ?z_abs ?z_all ?z_bool ?z_enumerate ?z_int ?z_isinstance ?z_len ?z_list ?z_max ?z_min ?z_range ?z_set ?z_sorted ?z_str ?z_tuple ?z_zip ?z_GREATEST ?z_LETTERS ?z_LONGEST ?z_MOST ?z_MOST_ARGS ?z_MOST_LEAVES ?z_MOST_PIECES ?z_MOST_ROWS ?z_PARTS ?q_PARTS ?r_PARTS ?o_PARTS ?u_PARTS
    (case a0 => k_is)
    (case l0 => k_is)
    (case c0 => k_is)
    (case k0 => k_is)
    (case a1 => k_is)
    (case l1 => k_is)
    (case c1 => k_is)
    (case k1 => k_is)
    (case a2 => k_is)
    (case l2 => k_is)
    (case c2 => k_is)
    (case k2 => k_is)
    (case a3 => k_is)
    (case l3 => k_is)
    (case c3 => k_is)
    (case k3 => k_is)
    (case a4 => k_is)
    (case l4 => k_is)
    (case c4 => k_is)
    (case k4 => k_is)
    (case a5 => k_is)
    (case l5 => k_is)
    (case c5 => k_is)
    (case k5 => k_is)
    (case a6 => k_is)
    (case l6 => k_is)
    (case c6 => k_is)
    (case k6 => k_is)
    (case a7 => k_is)
    (case l7 => k_is)
    (case c7 => k_is)
    (case k7 => k_is)
    (case a8 => k_is)
    (case l8 => k_is)
    (case c8 => k_is)
    (case k8 => k_is)
    (case a9 => k_is)
    (case l9 => k_is)
    (case c9 => k_is)
    (case k9 => k_is)
    (case a10 => k_is)
    (case l10 => k_is)
    (case c10 => k_is)
    (case k10 => k_is)
    (case a11 => k_is)
    (case l11 => k_is)
    (case c11 => k_is)
    (case k11 => k_is)
    (case a12 => k_is)
    (case l12 => k_is)
    (case c12 => k_is)
    (case k12 => k_is)
    (case a13 => k_is)
    (case l13 => k_is)
    (case c13 => k_is)
    (case k13 => k_is)
    (case a14 => k_is)
    (case l14 => k_is)
    (case c14 => k_is)
    (case k14 => k_is)
    (case a15 => k_is)
    (case l15 => k_is)
    (case c15 => k_is)
    (case k15 => k_is)
    (case a16 => k_is)
    (case l16 => k_is)
    (case c16 => k_is)
    (case k16 => k_is)
    (case a17 => k_is)
    (case l17 => k_is)
    (case c17 => k_is)
    (case k17 => k_is)
    (case a18 => k_is)
    (case l18 => k_is)
    (case c18 => k_is)
    (case k18 => k_is)
    (case a19 => k_is)
    (case l19 => k_is)
    (case c19 => k_is)
    (case k19 => k_is)
    (case a20 => k_is)
    (case l20 => k_is)
    (case c20 => k_is)
    (case k20 => k_is)
    (case a21 => k_is)
    (case l21 => k_is)
    (case c21 => k_is)
    (case k21 => k_is)
    (case a22 => k_is)
    (case l22 => k_is)
    (case c22 => k_is)
    (case k22 => k_is)
    (case a23 => k_is)
    (case l23 => k_is)
    (case c23 => k_is)
    (case k23 => k_is)
    (case a24 => k_is)
    (case l24 => k_is)
    (case c24 => k_is)
    (case k24 => k_is)
    (case a25 => k_is)
    (case l25 => k_is)
    (case c25 => k_is)
    (case k25 => k_is)
    (case a26 => k_is)
    (case l26 => k_is)
    (case c26 => k_is)
    (case k26 => k_is)
    (case a27 => k_is)
    (case l27 => k_is)
    (case c27 => k_is)
    (case k27 => k_is)
    (case a28 => k_is)
    (case l28 => k_is)
    (case c28 => k_is)
    (case k28 => k_is)
    (case a29 => k_is)
    (case l29 => k_is)
    (case c29 => k_is)
    (case k29 => k_is)
    (case a30 => k_is)
    (case l30 => k_is)
    (case c30 => k_is)
    (case k30 => k_is)
    (case a31 => k_is)
    (case l31 => k_is)
    (case c31 => k_is)
    (case k31 => k_is)
    (case a32 => k_is)
    (case l32 => k_is)
    (case c32 => k_is)
    (case k32 => k_is)
    (case a33 => k_is)
    (case l33 => k_is)
    (case c33 => k_is)
    (case k33 => k_is)
    (case z_abs => k_is)
    (case z_all => k_is)
    (case z_bool => k_is)
    (case z_enumerate => k_is)
    (case z_int => k_is)
    (case z_isinstance => k_is)
    (case z_len => k_is)
    (case z_list => k_is)
    (case z_max => k_is)
    (case z_min => k_is)
    (case z_range => k_is)
    (case z_set => k_is)
    (case z_sorted => k_is)
    (case z_str => k_is)
    (case z_tuple => k_is)
    (case z_zip => k_is)
    (case z_GREATEST => k_is)
    (case z_LETTERS => k_is)
    (case z_LONGEST => k_is)
    (case z_MOST => k_is)
    (case z_MOST_ARGS => k_is)
    (case z_MOST_LEAVES => k_is)
    (case z_MOST_PIECES => k_is)
    (case z_MOST_ROWS => k_is)
    (case z_PARTS => k_is)
    (case q_PARTS => k_is)
    (case r_PARTS => k_keys)
    (case o_PARTS => rfl)
    (case u_PARTS => rfl)
