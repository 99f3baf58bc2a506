import PyProof.Rows.All
import Wide.All
import OpenK.AllK
import Wide.FinOn
import HandS.ForMost
import HandS.IsInst
import HandS.Flow
import HandS.WordsExc
import HandS.CallSlots
import HandS.Style
import HandS.TupAny
import HandS.TupLe
import HandS.Deep
import HandS.Small
import PyProof.NeKinds
import PyProof.EqKinds
import HandS.Exc
import HandS.ExcIs
import HandS.ExcField
import KE.GoesEnum
import HandS.Zip
import HandS.Rev
import HandS.Strs
import HandS.SetFor
import PyProof.SetRoads
import PyProof.Rows.SortShellAny
import PyProof.Rows.SortShellSt
import HandS.TryOnly
import HandS.More
import HandS.SortKw
import KE.DatumOrd
import HandS.ExcInit
import HandS.ExcOwn
import PyProof.TupleOfStr
import HandS.Conv
import HandS.Text
import HandS.RaiseMore
import KE.KDictDisplayH
import HandS.WordsDict
import HandS.DeepEq
import KE.KDictZip
import HandS.Iter
import PyProof.ListMulRoad
import PyProof.FactsAll.tuple_2
import HandS.Base
import HandS.Call
import HandS.List
import HandS.TupMul
import PyProof.ReprRoads
import HandS.Ends
import HandS.WideBits
import HandS.Comp
import PySem.Challenge.RW_allcallers_k40_led_back
set_option Elab.async false
set_option linter.all false
set_option maxRecDepth 100000
namespace D
open PySem L2
inductive U where
  | non | bl (b : Bool) | int (i : Int) | str (x : Str)
  | tup (us : List U) | lst (us : List U) | dct (ks us : List U)
  | ref (n : Nat) | ty (n : String) | scr (ns : List Int)
inductive Ob where
  | lst (us : List U) | dct (ks us : List U) | ins (c : Str) (fs : List (Str × U)) | obj (c : Str) (fs : List (Str × U)) | dcT (ks : List (List U)) (us : List U) | gone
abbrev Store := List Ob
/-- how a step ends -/
inductive Rs (α : Type) where
  | ok (a : α) (st : Store) | ex (c : Str) (us : List (Str × U)) (st : Store) | bad
def Rs.bind {α β : Type} (r : Rs α) (k : α → Store → Rs β) : Rs β := match r with
  | .ok a st => k a st
  | .ex c us st => .ex c us st
  | .bad => .bad
def Rs.of {α : Type} (o : Option α) (st : Store) : Rs α := match o with
  | some a => .ok a st
  | none => .bad
/-- a slot: nothing, a value, a list that this frame owns -/
inductive Sl where
  | un | val (u : U) | own (us : List U)
abbrev Env := List Sl
abbrev DE := Env → Store → Rs U
abbrev DA := Env → Store → Rs (List U)
abbrev DT := Env → Store → Rs Bool
def KL (K : PySem.W.Frag) (a : Addr) (xs : List V) : Prop :=
  ∃ (o : Obj) (its : Array Value) (n : Nat), K.lookup a = some o ∧ o.cls = .type "list" ∧ o.dict = none ∧ o.data = .seq its n ∧ its.size ≤ sizeLine ∧ Vals xs its.toList
def KT (K : PySem.W.Frag) (a : Addr) (xs : List V) : Prop :=
  ∃ (o : Obj) (its : Array Value) (n : Nat), K.lookup a = some o ∧ o.cls = .type "tuple" ∧ o.data = .seq its n ∧ its.size ≤ sizeLine ∧ Vals xs its.toList
/-- never written: W tells what may be -/
def LL (K : PySem.W.Frag) (W : Addr → Prop) (H : Hp) (a : Addr) (xs : List V) : Prop := H a = some (.lst xs) ∧ ¬ W a
/-- the script -/
def LS (K : PySem.W.Frag) (W : Addr → Prop) (H : Hp) (a : Addr) (xs : List V) : Prop := (Rd H a (.lst xs) ∧ ¬ W a) ∨ KL K a xs
def LT (K : PySem.W.Frag) (W : Addr → Prop) (H : Hp) (a : Addr) (xs : List V) : Prop := (Rd H a (.tup xs) ∧ ¬ W a) ∨ KT K a xs
theorem LL.sq {K : PySem.W.Frag} {W : Addr → Prop} {H : Hp} {a : Addr} {xs : List V} (h : LL K W H a xs) : SqL K H a xs := .inl (.inl h.1)
theorem LS.sq {K : PySem.W.Frag} {W : Addr → Prop} {H : Hp} {a : Addr} {xs : List V} (h : LS K W H a xs) : SqL K H a xs := h.elim (fun x => .inl x.1) .inr
theorem LT.sq {K : PySem.W.Frag} {W : Addr → Prop} {H : Hp} {a : Addr} {xs : List V} (h : LT K W H a xs) : SqT K H a xs := h.elim (fun x => .inl x.1) .inr
def kU : Key → U
  | .inl i => .int i
  | .inr x => .str x
/-- a dict that is never written: keys ints and texts, or tuples of such -/
def LD (W : Addr → Prop) (H : Hp) (a : Addr) (ks : List U) (vs : List V) : Prop := ¬ W a ∧
  ((∃ kvs : List (Key × V), Rd H a (.dK kvs) ∧ ks = kvs.map (fun p => kU p.1) ∧ vs = kvs.map (·.2)) ∨
   (∃ kvs : List (List Key × V), H a = some (.dT kvs) ∧ ks = kvs.map (fun p => U.tup (p.1.map kU)) ∧ vs = kvs.map (·.2) ∧ kvs ≠ []))
mutual
def Rep (K : PySem.W.Frag) (W : Addr → Prop) (io : List Addr) (H : Hp) : U → V → Prop
  | .non, v => v = .non
  | .bl b, v => v = .bl b
  | .int i, v => v = .int i
  | .str x, v => v = .str x
  | .ty n, v => v = .ty n
  | .ref n, v => ∃ a, io[n]? = some a ∧ v = .ref a
  | .tup us, v => ∃ a vs, v = .ref a ∧ LT K W H a vs ∧ Reps K W io H us vs
  | .lst us, v => ∃ a vs, v = .ref a ∧ LL K W H a vs ∧ Reps K W io H us vs
  | .dct ks us, v => ∃ a vs, v = .ref a ∧ LD W H a ks vs ∧ Reps K W io H us vs
  | .scr ns, v => ∃ a, v = .ref a ∧ LS K W H a (ns.map V.int)
def Reps (K : PySem.W.Frag) (W : Addr → Prop) (io : List Addr) (H : Hp) : List U → List V → Prop
  | [], vs => vs = []
  | u :: us, vs => ∃ v r, vs = v :: r ∧ Rep K W io H u v ∧ Reps K W io H us r
end
/-- what a way may turn: the store's own objects alone; what it adds is new -/
structure Ext (io : List Addr) (H : Hp) (io' : List Addr) (H' : Hp) : Prop where
  pre : ∃ more, io' = io ++ more ∧ ∀ a ∈ more, H a = none
  keep : ∀ a o, a ∉ io → H a = some o → H' a = some o
  stay : ∀ a o, H a = some o → ∃ o', H' a = some o'
def Wf (G : Addr → Prop) (io : List Addr) : Addr → Prop := fun a => G a ∨ a ∈ io
theorem Ext.refl (io : List Addr) (H : Hp) : Ext io H io H := ⟨⟨[], by simp, fun _ h => nomatch h⟩, fun _ _ _ h => h, fun _ o h => ⟨o, h⟩⟩
theorem Ext.same {io : List Addr} {H H' : Hp} (s : Same H H') : Ext io H io H' := ⟨⟨[], by simp, fun _ h => nomatch h⟩, fun a o _ h => s a o h, fun a o h => ⟨o, s a o h⟩⟩
theorem Ext.trans {io io1 io2 : List Addr} {H H1 H2 : Hp} (a : Ext io H io1 H1) (b : Ext io1 H1 io2 H2) : Ext io H io2 H2 := by
  have st := a.stay
  obtain ⟨m1, e1, f1⟩ := a.pre
  obtain ⟨m2, e2, f2⟩ := b.pre
  refine ⟨⟨m1 ++ m2, by rw [e2, e1, List.append_assoc], fun x hx => ?_⟩, fun x o hx h => ?_, fun x o h => let ⟨o1, e1⟩ := a.stay x o h; b.stay x o1 e1⟩
  · rcases List.mem_append.mp hx with h | h
    · exact f1 x h
    · have z := f2 x h
      cases q : H x with
      | none => rfl
      | some o =>
        obtain ⟨o', e⟩ := st x o q
        rw [e] at z; cases z
  · refine b.keep x o (fun z => ?_) (a.keep x o hx h)
    rw [e1] at z
    rcases List.mem_append.mp z with z | z
    · exact hx z
    · rw [f1 x z] at h; cases h
section
variable {K : PySem.W.Frag} {G : Addr → Prop} {io io' : List Addr} {H H' : Hp}
theorem Ext.notW (e : Ext io H io' H') {a : Addr} {o : HO} (h : ¬ Wf G io a) (ho : H a = some o) : ¬ Wf G io' a := by
  obtain ⟨m, rfl, f⟩ := e.pre
  rintro (z | z)
  · exact h (.inl z)
  · rcases List.mem_append.mp z with z | z
    · exact h (.inr z)
    · rw [f a z] at ho; cases ho
theorem Ext.rd (e : Ext io H io' H') {a : Addr} {u : HO} (h : Rd H a u) (n : ¬ Wf G io a) : Rd H' a u ∧ ¬ Wf G io' a := by
  rcases h with h | ⟨o, h⟩
  · exact ⟨.inl (e.keep a _ (fun z => n (.inr z)) h), e.notW n h⟩
  · exact ⟨.inr ⟨o, e.keep a _ (fun z => n (.inr z)) h⟩, e.notW n h⟩
/-- what plain data stands still under -/
structure Mono (G : Addr → Prop) (io : List Addr) (H : Hp) (G' : Addr → Prop) (io' : List Addr) (H' : Hp) : Prop where
  pre : ∃ more, io' = io ++ more
  keep : ∀ a o, ¬ Wf G io a → H a = some o → H' a = some o ∧ ¬ Wf G' io' a
theorem Ext.mono (e : Ext io H io' H') : Mono G io H G io' H' := ⟨let ⟨m, q, _⟩ := e.pre; ⟨m, q⟩, fun a o n h => ⟨e.keep a o (fun z => n (.inr z)) h, e.notW n h⟩⟩
end
section
variable {K : PySem.W.Frag} {G G' : Addr → Prop} {io io' : List Addr} {H H' : Hp}
theorem Mono.rd (e : Mono G io H G' io' H') {a : Addr} {u : HO} (h : Rd H a u) (n : ¬ Wf G io a) : Rd H' a u ∧ ¬ Wf G' io' a := by
  rcases h with h | ⟨o, h⟩
  · exact ⟨.inl (e.keep a _ n h).1, (e.keep a _ n h).2⟩
  · exact ⟨.inr ⟨o, (e.keep a _ n h).1⟩, (e.keep a _ n h).2⟩
theorem LL.mono (e : Mono G io H G' io' H') {a : Addr} {xs : List V} (h : LL K (Wf G io) H a xs) : LL K (Wf G' io') H' a xs := e.keep a _ h.2 h.1
theorem LS.mono (e : Mono G io H G' io' H') {a : Addr} {xs : List V} (h : LS K (Wf G io) H a xs) : LS K (Wf G' io') H' a xs := h.elim (fun x => .inl (e.rd x.1 x.2)) .inr
theorem LT.mono (e : Mono G io H G' io' H') {a : Addr} {xs : List V} (h : LT K (Wf G io) H a xs) : LT K (Wf G' io') H' a xs := h.elim (fun x => .inl (e.rd x.1 x.2)) .inr
theorem LD.mono (e : Mono G io H G' io' H') {a : Addr} {ks : List U} {vs : List V} (h : LD (Wf G io) H a ks vs) : LD (Wf G' io') H' a ks vs := by
  obtain ⟨n, ⟨kvs, h1, h2⟩ | ⟨kvs, h1, h2⟩⟩ := h
  · exact ⟨(e.rd h1 n).2, .inl ⟨kvs, (e.rd h1 n).1, h2⟩⟩
  · exact ⟨(e.keep a _ n h1).2, .inr ⟨kvs, (e.keep a _ n h1).1, h2⟩⟩
mutual
theorem Rep.mono (e : Mono G io H G' io' H') : ∀ (u : U) (v : V), Rep K (Wf G io) io H u v → Rep K (Wf G' io') io' H' u v
  | .non, v, h => by unfold Rep at h ⊢; exact h
  | .bl b, v, h => by unfold Rep at h ⊢; exact h
  | .int i, v, h => by unfold Rep at h ⊢; exact h
  | .str x, v, h => by unfold Rep at h ⊢; exact h
  | .ty n, v, h => by unfold Rep at h ⊢; exact h
  | .ref n, v, h => by
    unfold Rep at h ⊢
    obtain ⟨a, h1, h2⟩ := h
    obtain ⟨m, rfl⟩ := e.pre
    exact ⟨a, by rw [List.getElem?_append_left (List.getElem?_eq_some_iff.mp h1).1]; exact h1, h2⟩
  | .tup us, v, h => by
    unfold Rep at h ⊢
    obtain ⟨a, vs, h1, h2, h3⟩ := h
    exact ⟨a, vs, h1, h2.mono e, Reps.mono e us vs h3⟩
  | .lst us, v, h => by
    unfold Rep at h ⊢
    obtain ⟨a, vs, h1, h2, h3⟩ := h
    exact ⟨a, vs, h1, h2.mono e, Reps.mono e us vs h3⟩
  | .dct ks us, v, h => by
    unfold Rep at h ⊢
    obtain ⟨a, vs, h1, h2, h3⟩ := h
    exact ⟨a, vs, h1, h2.mono e, Reps.mono e us vs h3⟩
  | .scr ns, v, h => by
    unfold Rep at h ⊢
    obtain ⟨a, h1, h2⟩ := h
    exact ⟨a, h1, h2.mono e⟩
theorem Reps.mono (e : Mono G io H G' io' H') : ∀ (us : List U) (vs : List V), Reps K (Wf G io) io H us vs → Reps K (Wf G' io') io' H' us vs
  | [], vs, h => by unfold Reps at h ⊢; exact h
  | u :: us, vs, h => by
    unfold Reps at h ⊢
    obtain ⟨v, r, h1, h2, h3⟩ := h
    exact ⟨v, r, h1, Rep.mono e u v h2, Reps.mono e us r h3⟩
end
theorem Rep.ext (e : Ext io H io' H') (u : U) (v : V) (h : Rep K (Wf G io) io H u v) : Rep K (Wf G io') io' H' u v := Rep.mono e.mono u v h
theorem Reps.ext (e : Ext io H io' H') (u : List U) (v : List V) (h : Reps K (Wf G io) io H u v) : Reps K (Wf G io') io' H' u v := Reps.mono e.mono u v h
end
section
variable {K : PySem.W.Frag} {W : Addr → Prop} {io : List Addr} {H : Hp}
theorem Reps.nil : Reps K W io H [] [] := by unfold Reps; rfl
theorem Reps.cons {u : U} {v : V} {us : List U} {vs : List V} (h : Rep K W io H u v) (t : Reps K W io H us vs) : Reps K W io H (u :: us) (v :: vs) := by unfold Reps; exact ⟨v, vs, rfl, h, t⟩
theorem Reps.uncons {u : U} {us : List U} {vs : List V} (h : Reps K W io H (u :: us) vs) : ∃ v r, vs = v :: r ∧ Rep K W io H u v ∧ Reps K W io H us r := by unfold Reps at h; exact h
theorem Reps.isNil {vs : List V} (h : Reps K W io H [] vs) : vs = [] := by unfold Reps at h; exact h
theorem Reps.length : ∀ {us : List U} {vs : List V}, Reps K W io H us vs → us.length = vs.length
  | [], _, h => by rw [h.isNil]; rfl
  | u :: us, _, h => by
    obtain ⟨v, r, rfl, _, t⟩ := h.uncons
    simp [Reps.length t]
theorem Reps.get : ∀ {us : List U} {vs : List V} {i : Nat} {u : U}, Reps K W io H us vs → us[i]? = some u → ∃ v, vs[i]? = some v ∧ Rep K W io H u v
  | [], _, _, _, _, e => by simp at e
  | u :: us, _, 0, _, h, e => by
    obtain ⟨v, r, rfl, q, t⟩ := h.uncons
    simp at e; subst e
    exact ⟨v, rfl, q⟩
  | u :: us, _, i + 1, _, h, e => by
    obtain ⟨v, r, rfl, q, t⟩ := h.uncons
    simpa using Reps.get t (by simpa using e)
theorem Reps.append : ∀ {us ws : List U} {vs xs : List V}, Reps K W io H us vs → Reps K W io H ws xs → Reps K W io H (us ++ ws) (vs ++ xs)
  | [], _, _, _, h, t => by rw [h.isNil]; exact t
  | u :: us, _, _, _, h, t => by
    obtain ⟨v, r, rfl, q, t'⟩ := h.uncons
    exact .cons q (Reps.append t' t)
theorem Reps.take : ∀ {us : List U} {vs : List V} (n : Nat), Reps K W io H us vs → Reps K W io H (us.take n) (vs.take n)
  | _, _, 0, _ => by simp; exact .nil
  | [], _, n + 1, h => by rw [h.isNil]; exact .nil
  | u :: us, _, n + 1, h => by
    obtain ⟨v, r, rfl, q, t⟩ := h.uncons
    exact .cons q (Reps.take n t)
theorem Reps.drop : ∀ {us : List U} {vs : List V} (n : Nat), Reps K W io H us vs → Reps K W io H (us.drop n) (vs.drop n)
  | _, _, 0, h => h
  | [], _, n + 1, h => by rw [h.isNil]; exact .nil
  | u :: us, _, n + 1, h => by
    obtain ⟨v, r, rfl, q, t⟩ := h.uncons
    exact Reps.drop n t
theorem Reps.ofInts : ∀ {ns : List Int} {vs : List V}, Reps K W io H (ns.map U.int) vs → vs = ns.map V.int
  | [], _, h => h.isNil
  | n :: ns, _, h => by
    obtain ⟨v, r, rfl, q, t⟩ := h.uncons
    unfold Rep at q
    rw [q, Reps.ofInts t]; rfl
theorem Reps.ints (ns : List Int) : Reps K W io H (ns.map U.int) (ns.map V.int) := by
  induction ns with
  | nil => exact .nil
  | cons n ns ih => exact .cons (by unfold Rep; rfl) ih
theorem Reps.ofStrs : ∀ {ns : List Str} {vs : List V}, Reps K W io H (ns.map U.str) vs → vs = ns.map V.str
  | [], _, h => h.isNil
  | n :: ns, _, h => by
    obtain ⟨v, r, rfl, q, t⟩ := h.uncons
    unfold Rep at q
    rw [q, Reps.ofStrs t]; rfl
theorem Reps.strs (ns : List Str) : Reps K W io H (ns.map U.str) (ns.map V.str) := by
  induction ns with
  | nil => exact .nil
  | cons n ns ih => exact .cons (by unfold Rep; rfl) ih
end
/-- no dict of an exception -/
def NX (o : HO) : Prop := ∀ ws, o ≠ .xd ws
theorem nx_lst {vs : List V} : NX (.lst vs) := fun _ z => nomatch z
/-- the class of a name -/
def clsAt (K : PySem.W.Frag) (c : Str) : Option Addr := match PySem.W.nsIn K mainGlobals c with
  | some (some (.ref C)) => some C
  | _ => none
/-- an exception that was caught -/
def exk (cls : Value) (d : Option Addr) (a : Addr) : HO := .ext fun h => ∃ (oe : Obj) (vs : Array Value), h.get? a = some oe ∧ Zc cls d oe ∧ oe.data = .fields vs
def flatE : U → Option V
  | .non => some .non
  | .bl b => some (.bl b)
  | .int i => some (.int i)
  | .str x => some (.str x)
  | _ => none
/-- the fields of an exception -/
def XD (fs : List (Str × U)) (d : Option Addr) (H : Hp) : Prop := (fs = [] ∧ d = none) ∨ ∃ dd ws, d = some dd ∧ H dd = some (.xd ws) ∧ fs.map (fun p => (p.1, flatE p.2)) = ws.map (fun p => (p.1, some p.2))
theorem XD.keep {fs : List (Str × U)} {d : Option Addr} {H H' : Hp} (h : XD fs d H) (k : ∀ dd ws, H dd = some (.xd ws) → H' dd = some (.xd ws)) : XD fs d H' := by
  rcases h with h | ⟨dd, ws, h1, h2, h3⟩
  · exact .inl h
  · exact .inr ⟨dd, ws, h1, k dd ws h2, h3⟩
/-- an object of the store -/
def ObRep (K : PySem.W.Frag) (W : Addr → Prop) (io : List Addr) (H : Hp) (a : Addr) : Ob → Prop
  | .lst us => ∃ vs, H a = some (.lst vs) ∧ Reps K W io H us vs
  | .dct ks us => ∃ kvs : List (Key × V), H a = some (.dK kvs) ∧ ks = kvs.map (fun p => kU p.1) ∧ Reps K W io H us (kvs.map (·.2))
  | .dcT ks us => ∃ kvs : List (List Key × V), H a = some (.dT kvs) ∧ ks = kvs.map (fun p => p.1.map kU) ∧ Reps K W io H us (kvs.map (·.2))
  | .obj c fs => ∃ C dx vs, clsAt K c = some C ∧ H a = some (.ins C dx ((fs.map (·.1)).zip vs)) ∧ Reps K W io H (fs.map (·.2)) vs
  | .ins c fs => ∃ C d, clsAt K c = some C ∧ H a = some (exk (.ref C) d a) ∧ XD fs d H
  | .gone => True
/-- the store lies in the heap; G: what is written by none of these ways, and never plain data -/
structure Ok (K : PySem.W.Frag) (G : Addr → Prop) (io : List Addr) (st : Store) (H : Hp) : Prop where
  nd : io.Nodup
  dj : ∀ a ∈ io, ¬ G a
  trk : ∀ a, Wf G io a → ∃ o, H a = some o ∧ NX o
  len : st.length = io.length
  obs : ∀ (n : Nat) (ob : Ob) (a : Addr), st[n]? = some ob → io[n]? = some a → ObRep K (Wf G io) io H a ob
def SlRep (K : PySem.W.Frag) (G : Addr → Prop) (io : List Addr) (H : Hp) : Sl → Option V → Prop
  | .un, _ => True
  | .val u, o => ∃ v, o = some v ∧ Rep K (Wf G io) io H u v
  | .own us, o => ∃ a vs, o = some (.ref a) ∧ G a ∧ H a = some (.lst vs) ∧ Reps K (Wf G io) io H us vs
structure EnvRep (K : PySem.W.Frag) (G : Addr → Prop) (io : List Addr) (H : Hp) (env : Env) (sg : St) : Prop where
  len : env.length = sg.length
  sl : ∀ (i : Nat) s o, env[i]? = some s → sg[i]? = some o → SlRep K G io H s o
section
variable {K : PySem.W.Frag} {G : Addr → Prop} {io io' : List Addr} {H H' : Hp} {st : Store} {env : Env} {sg : St}
theorem Ok.same (h : Ok K G io st H) (s : Same H H') : Ok K G io st H' := ⟨h.nd, h.dj, fun a q => let ⟨o, e, x⟩ := h.trk a q; ⟨o, s a o e, x⟩, h.len, fun n ob a e1 e2 => by
  have q := h.obs n ob a e1 e2
  cases ob with
  | lst us =>
    obtain ⟨vs, q1, q2⟩ := q
    exact ⟨vs, s _ _ q1, q2.ext (Ext.same s)⟩
  | dct ks us =>
    obtain ⟨kvs, q1, q2, q3⟩ := q
    exact ⟨kvs, s _ _ q1, q2, q3.ext (Ext.same s)⟩
  | dcT ks us =>
    obtain ⟨kvs, q1, q2, q3⟩ := q
    exact ⟨kvs, s _ _ q1, q2, q3.ext (Ext.same s)⟩
  | obj c fs =>
    obtain ⟨C, dx, vs, q1, q2, q3⟩ := q
    exact ⟨C, dx, vs, q1, s _ _ q2, q3.ext (Ext.same s)⟩
  | ins c fs =>
    obtain ⟨C, d, q1, q2, q3⟩ := q
    exact ⟨C, d, q1, s _ _ q2, q3.keep fun dd ws z => s _ _ z⟩
  | gone => trivial⟩
theorem Ok.fresh (h : Ok K G io st H) {p : Addr} (hp : H p = none) : ¬ Wf G io p := fun q => by
  obtain ⟨o, e, _⟩ := h.trk p q
  rw [hp] at e; cases e
theorem EnvRep.ext (h : EnvRep K G io H env sg) (dj : ∀ a ∈ io, ¬ G a) (e : Ext io H io' H') : EnvRep K G io' H' env sg := ⟨h.len, fun i s o e1 e2 => by
  have q := h.sl i s o e1 e2
  cases s with
  | un => trivial
  | val u =>
    obtain ⟨v, q1, q2⟩ := q
    exact ⟨v, q1, q2.ext e⟩
  | own us =>
    obtain ⟨a, vs, q1, q2, q3, q4⟩ := q
    exact ⟨a, vs, q1, q2, e.keep a _ (fun z => dj a z q2) q3, q4.ext e⟩⟩
end
/-- what is wanted of a way's end: a value, an exception -/
def Wants {A : Type} (K : PySem.W.Frag) (G : Addr → Prop) (io : List Addr) (H : Hp) (R : Store → List Addr → Hp → A → Prop) (XR : Str → List (Str × U) → Store → List Addr → Hp → Prop) : Rs A → Prop
  | .ok a st' => ∀ io' H', Ok K G io' st' H' → Ext io H io' H' → R st' io' H' a
  | .ex c us st' => ∀ io' H', Ok K G io' st' H' → Ext io H io' H' → XR c us st' io' H'
  | .bad => False
section
variable {A B : Type} {K : PySem.W.Frag} {G : Addr → Prop} {io io1 : List Addr} {H H1 : Hp} {R R' : Store → List Addr → Hp → A → Prop} {XR XR' : Str → List (Str × U) → Store → List Addr → Hp → Prop}
theorem Wants.imp {r : Rs A} (h : Wants K G io H R XR r) (f : ∀ st' io' H' a, Ok K G io' st' H' → Ext io H io' H' → R st' io' H' a → R' st' io' H' a)
    (g : ∀ c us st' io' H', Ok K G io' st' H' → Ext io H io' H' → XR c us st' io' H' → XR' c us st' io' H') : Wants K G io H R' XR' r := by
  cases r with
  | ok a st => exact fun io' H' o e => f st io' H' a o e (h io' H' o e)
  | ex c us st => exact fun io' H' o e => g c us st io' H' o e (h io' H' o e)
  | bad => exact h
theorem Wants.impR {r : Rs A} (h : Wants K G io H R XR r) (f : ∀ st' io' H' a, Ok K G io' st' H' → Ext io H io' H' → R st' io' H' a → R' st' io' H' a) : Wants K G io H R' XR r := h.imp f fun _ _ _ _ _ _ _ q => q
theorem Wants.later {r : Rs A} (h : Wants K G io H R XR r) (e : Ext io H io1 H1) : Wants K G io1 H1 R XR r := by
  cases r with
  | ok a st => exact fun io' H' o e' => h io' H' o (e.trans e')
  | ex c us st => exact fun io' H' o e' => h io' H' o (e.trans e')
  | bad => exact h
theorem Wants.bind {R : Store → List Addr → Hp → B → Prop} {r : Rs A} {k : A → Store → Rs B} (h : Wants K G io H R XR (r.bind k)) : Wants K G io H (fun st1 io1 H1 a => Wants K G io1 H1 R XR (k a st1)) XR r := by
  cases r with
  | ok a st => exact fun io' H' o e' => Wants.later (r := k a st) h e'
  | ex c us st => exact h
  | bad => exact h
theorem Wants.here {a : A} {st : Store} (h : Wants K G io H R XR (.ok a st)) (ok : Ok K G io st H) : R st io H a := h io H ok (Ext.refl _ _)
theorem Wants.hereS {a : A} {st : Store} (h : Wants K G io H R XR (.ok a st)) (ok : Ok K G io st H) (s : Same H H1) : R st io H1 a := h io H1 (ok.same s) (Ext.same s)
end
/-- an exception as the layer tells it (class value, own dict) -/
abbrev XS := Str → List (Str × U) → Value → Option Addr → Hp → Prop
/-- what is wanted of an exception at the slots sg -/
abbrev XW (xs : XS) (wx : WX) (sg : L2.St) : Str → List (Str × U) → Store → List Addr → Hp → Prop := fun c us _ _ H' => ∀ cls d, xs c us cls d H' → wx cls d sg H'
def tD (K : PySem.W.Frag) (xs : XS) (wx : WX) (f : DE) : TE := fun sg H Q => ∃ G io st env, Ok K G io st H ∧ EnvRep K G io H env sg ∧
  Wants K G io H (fun _ io' H' u => ∀ v, Rep K (Wf G io') io' H' u v → Q v H') (XW xs wx sg) (f env st)
def tDT (K : PySem.W.Frag) (xs : XS) (wx : WX) (f : DT) : TT := fun sg H Q => ∃ G io st env, Ok K G io st H ∧ EnvRep K G io H env sg ∧
  Wants K G io H (fun _ _ H' b => Q b H') (XW xs wx sg) (f env st)
def tDA (K : PySem.W.Frag) (xs : XS) (wx : WX) (f : DA) : TA := fun sg H Q => ∃ G io st env, Ok K G io st H ∧ EnvRep K G io H env sg ∧
  Wants K G io H (fun _ io' H' us => ∀ vs, Reps K (Wf G io') io' H' us vs → Q vs H') (XW xs wx sg) (f env st)
theorem pe_imp {X : Cx} {e : Expr} {t t' : TE} (h : PE X e t) (f : ∀ sg H Q, t' sg H Q → t sg H Q) : PE X e t' := ⟨fun pins s sg H Q I q => h.run pins s sg H Q I (f sg H Q q)⟩
theorem pt_imp {X : Cx} {e : Expr} {t t' : TT} (h : PT X e t) (f : ∀ sg H Q, t' sg H Q → t sg H Q) : PT X e t' := ⟨fun pins s sg H Q I q => h.run pins s sg H Q I (f sg H Q q)⟩
theorem pw_imp {X : Cx} {e : Expr} {t t' : TT} (h : PW X e t) (f : ∀ sg H Q, t' sg H Q → t sg H Q) : PW X e t' := ⟨fun wh pins s sg H Q I q => h.run wh pins s sg H Q I (f sg H Q q)⟩
theorem pa_imp {X : Cx} {e : List Expr} {t t' : TA} (h : PA X e t) (f : ∀ sg H Q, t' sg H Q → t sg H Q) : PA X e t' := ⟨fun pos pins s sg H Q I q => h.run pos pins s sg H Q I (f sg H Q q)⟩
theorem ps_imp {X : Cx} {e : Stmt} {t t' : TS} (h : PS X e t) (f : ∀ D sg H, t' D sg H → t D sg H) : PS X e t' := ⟨fun pins s sg H D I q => h.run pins s sg H D I (f D sg H q)⟩
theorem pss_imp {X : Cx} {e : List Stmt} {t t' : TS} (h : PSs X e t) (f : ∀ D sg H, t' D sg H → t D sg H) : PSs X e t' := ⟨fun pins s sg H D I q => h.run pins s sg H D I (f D sg H q)⟩
def cst (u : U) : DE := fun _ st => .ok u st
def var (i : Nat) : DE := fun env st => match env[i]? with
  | some (.val u) => .ok u st
  | _ => .bad
def bin (g : U → U → Option U) (a b : DE) : DE := fun env st => (a env st).bind fun u st1 => (b env st1).bind fun v st2 => Rs.of (g u v) st2
def anil : DA := fun _ st => .ok [] st
def acons (a : DE) (b : DA) : DA := fun env st => (a env st).bind fun u st1 => (b env st1).bind fun us st2 => .ok (u :: us) st2
def appN (g : List U → Option U) (a : DA) : DE := fun env st => (a env st).bind fun us st1 => Rs.of (g us) st1
def appU (g : List U → Store → Rs U) (a : DA) : DE := fun env st => (a env st).bind fun us st1 => g us st1
def tst (a : DE) : DT := fun env st => (a env st).bind fun u st1 => match u with
  | .bl b => .ok b st1
  | _ => .bad
def andT (a b : DT) : DT := fun env st => (a env st).bind fun c st1 => if c = true then b env st1 else .ok false st1
def orT (a b : DT) : DT := fun env st => (a env st).bind fun c st1 => if c = true then .ok true st1 else b env st1
def notT (a : DT) : DT := fun env st => (a env st).bind fun c st1 => .ok (!c) st1
def chain (g h : U → U → Option U) (a b c : DE) : DE := fun env st => (a env st).bind fun u st1 => (b env st1).bind fun v st2 => match g u v with
  | some (.bl k) => if k = true then (c env st2).bind fun w st3 => Rs.of (h v w) st3 else .ok (.bl false) st2
  | _ => .bad
end D
namespace D
open PySem L2
section
variable {X : Cx} {xs : XS} {wx : WX} {pos : Pos}
theorem d_cst {e : Expr} {v : V} {u : U} (h : PE X e (tC v)) (r : ∀ G io H, Rep X.K (Wf G io) io H u v) : PE X e (tD X.K xs wx (cst u)) := pe_imp h fun sg H Q q => by
  obtain ⟨G, io, st, env, ok, er, w⟩ := q
  exact w.here ok v (r _ _ _)
theorem d_int {i j} : PE X (.Constant (.int i) j pos) (tD X.K xs wx (cst (.int i))) := d_cst pe_int fun _ _ _ => by unfold Rep; rfl
theorem d_bl {i j} : PE X (.Constant (.bool i) j pos) (tD X.K xs wx (cst (.bl i))) := d_cst pe_bl fun _ _ _ => by unfold Rep; rfl
theorem d_non {j} : PE X (.Constant .none j pos) (tD X.K xs wx (cst .non)) := d_cst pe_non fun _ _ _ => by unfold Rep; rfl
theorem d_str {i j} : PE X (.Constant (.str i) j pos) (tD X.K xs wx (cst (.str i))) := d_cst pe_str fun _ _ _ => by unfold Rep; rfl
theorem Rs.of_bad {A : Type} {r : Rs A} {K G io H R XR} (h : Wants (A := A) K G io H R XR r) : r ≠ .bad := fun e => by rw [e] at h; exact h
theorem d_var (i : Nat) {x : Str} (hN : X.N[i]? = some x) (hv : Vis X.env.scope x) (hd : (x == ("__debug__" : Str)) = false := by decide) (hcd : (x == ("__classdict__" : Str)) = false := by decide) : PE X (.Name x pos) (tD X.K xs wx (var i)) :=
  pe_imp (pe_var (i := i) hN hv hd hcd) fun sg H Q q => by
    obtain ⟨G, io, st, env, ok, er, w⟩ := q
    unfold var at w
    split at w
    · rename_i u e
      have hi : i < sg.length := by rw [← er.len]; exact (List.getElem?_eq_some_iff.mp e).1
      obtain ⟨v, e1, r⟩ := er.sl i _ _ e (List.getElem?_eq_getElem hi)
      exact ⟨v, (List.getElem?_eq_getElem hi).trans (congrArg some e1), w.here ok v r⟩
    · exact w.elim
def P2 (K : PySem.W.Frag) (g : U → U → Option U) : R2 := fun x y H Q => ∃ G io st u1 u2 u, Ok K G io st H ∧ Rep K (Wf G io) io H u1 x ∧ Rep K (Wf G io) io H u2 y ∧ g u1 u2 = some u ∧
  ∀ v H', Same H H' → Rep K (Wf G io) io H' u v → Q v H'
def PN (K : PySem.W.Frag) (g : List U → Option U) : List V → Hp → VK → Prop := fun vs H Q => ∃ G io st us u, Ok K G io st H ∧ Reps K (Wf G io) io H us vs ∧ g us = some u ∧
  ∀ v H', Same H H' → Rep K (Wf G io) io H' u v → Q v H'
theorem Wants.pure {A : Type} {K G io H} {R : Store → List Addr → Hp → A → Prop} {XR} {o : Option A} {st : Store} (w : Wants K G io H R XR (Rs.of o st)) : ∃ a, o = some a ∧ Wants K G io H R XR (.ok a st) := by
  cases o with
  | none => exact w.elim
  | some a => exact ⟨a, rfl, w⟩
theorem bin_read {g : U → U → Option U} {fa fb : DE} {sg : L2.St} {H : Hp} {Q : VK} (h : tD X.K xs wx (bin g fa fb) sg H Q) : tOp (P2 X.K g) (tD X.K xs wx fa) (tD X.K xs wx fb) sg H Q := by
  obtain ⟨G, io, st, env, ok, er, w⟩ := h
  refine ⟨G, io, st, env, ok, er, w.bind.impR fun st1 io1 H1 u ok1 e1 w1 v rv => ?_⟩
  refine ⟨G, io1, st1, env, ok1, er.ext ok.dj e1, w1.bind.impR fun st2 io2 H2 u2 ok2 e2 w2 v2 rv2 => ?_⟩
  obtain ⟨a, ha, w3⟩ := w2.pure
  exact ⟨G, io2, st2, u, u2, a, ok2, rv.ext e2, rv2, ha, fun v' H' s r => w3.hereS ok2 s v' r⟩
theorem d_bin {op : Operator} {g : U → U → Option U} {a b : Expr} {fa fb : DE} (ho : OpR X (binaryOp op) (P2 X.K g)) (ha : PE X a (tD X.K xs wx fa)) (hb : PE X b (tD X.K xs wx fb)) : PE X (.BinOp a op b pos) (tD X.K xs wx (bin g fa fb)) :=
  pe_imp (pe_op ho ha hb) fun _ _ _ h => bin_read h
theorem d_cmp {op : CmpOp} {g : U → U → Option U} {a b : Expr} {fa fb : DE} (ho : OpR X (compareOp op) (P2 X.K g)) (ha : PE X a (tD X.K xs wx fa)) (hb : PE X b (tD X.K xs wx fb)) (hm : behindInMarks op b = false := by first | exact nomark _ | rfl) : PE X (.Compare a [op] [b] pos) (tD X.K xs wx (bin g fa fb)) :=
  pe_imp (pe_cmpR ho ha hb hm) fun _ _ _ h => bin_read h
theorem tst_read {f : DE} {t : TE} {sg : L2.St} {H : Hp} {Q : Bool → Hp → Prop} (h : tDT X.K xs wx (tst f) sg H Q) : tD X.K xs wx f sg H (fun x H1 => ∃ k, x = .bl k ∧ Q k H1) := by
  obtain ⟨G, io, st, env, ok, er, w⟩ := h
  refine ⟨G, io, st, env, ok, er, w.bind.impR fun st1 io1 H1 u ok1 e1 w1 v rv => ?_⟩
  cases u with
  | bl b => exact ⟨b, by unfold Rep at rv; exact rv, w1.here ok1⟩
  | _ => exact w1.elim
/-- a comparison as a test -/
theorem t_cmp {op : CmpOp} {g : U → U → Option U} {a b : Expr} {fa fb : DE} (ho : OpR X (compareOp op) (P2 X.K g)) (ha : PE X a (tD X.K xs wx fa)) (hb : PE X b (tD X.K xs wx fb)) (hm : behindInMarks op b = false := by first | exact nomark _ | rfl) :
    PT X (.Compare a [op] [b] pos) (tDT X.K xs wx (tst (bin g fa fb))) := pt_imp (pt_cmpR ho ha hb hm) fun sg H Q h => by
  obtain ⟨G, io, st, env, ok, er, w⟩ := h
  refine bin_read (Q := fun x H1 => ∃ k, x = .bl k ∧ Q k H1) ?_
  exact tst_read (t := tVar 0) ⟨G, io, st, env, ok, er, w⟩
/-- another expression as a test -/
theorem t_val {e : Expr} {f : DE} (h : PE X e (tD X.K xs wx f)) (he : ∀ whole, isTrue e X.env whole = (do let v ← whole; standAt e.pos; holding [v] (truthy v)) := by intro _; rfl) : PT X e (tDT X.K xs wx (tst f)) :=
  pt_imp (pt_val h he) fun sg H Q h => tst_read (t := tVar 0) h
theorem t_not {e : Expr} {f : DT} (h : PT X e (tDT X.K xs wx f)) : PT X (.UnaryOp .Not e pos) (tDT X.K xs wx (notT f)) := pt_imp (pt_not h) fun sg H Q h => by
  obtain ⟨G, io, st, env, ok, er, w⟩ := h
  exact ⟨G, io, st, env, ok, er, w.bind.impR fun st1 io1 H1 u ok1 e1 w1 => w1.here ok1⟩
variable {a b : Expr} {rest : List Expr}
theorem w_or1 {f : DT} (ha : PT X a (tDT X.K xs wx f)) : PW X (.BoolOp .Or [a] pos) (tDT X.K xs wx f) := pw_or1 ha
theorem w_or {f g : DT} (ha : PT X a (tDT X.K xs wx f)) (hb : PW X (.BoolOp .Or (b :: rest) pos) (tDT X.K xs wx g)) : PW X (.BoolOp .Or (a :: b :: rest) pos) (tDT X.K xs wx (orT f g)) := pw_imp (pw_or ha hb) fun sg H Q h => by
  obtain ⟨G, io, st, env, ok, er, w⟩ := h
  refine ⟨G, io, st, env, ok, er, w.bind.impR fun st1 io1 H1 c ok1 e1 w1 => ?_⟩
  cases c with
  | false => exact ⟨G, io1, st1, env, ok1, er.ext ok.dj e1, w1⟩
  | true => exact Wants.here (K := X.K) (G := G) (io := io1) (a := true) w1 ok1
/-- and, or as values, of truths -/
def andV (a b : DE) : DE := fun env st => (a env st).bind fun u st1 => match u with
  | .bl c => if c = true then b env st1 else .ok (.bl false) st1
  | _ => .bad
def orV (a b : DE) : DE := fun env st => (a env st).bind fun u st1 => match u with
  | .bl c => if c = true then .ok (.bl true) st1 else b env st1
  | _ => .bad
def notV (a : DE) : DE := fun env st => (a env st).bind fun u st1 => match u with
  | .bl c => .ok (.bl (!c)) st1
  | _ => .bad
def ifE (c : DT) (a b : DE) : DE := fun env st => (c env st).bind fun t st1 => if t = true then a env st1 else b env st1
theorem a_nil : PA X [] (tDA X.K xs wx anil) := pa_imp pa_nil fun sg H Q h => by
  obtain ⟨G, io, st, env, ok, er, w⟩ := h
  exact w.here ok _ .nil
theorem a_cons {e : Expr} {es : List Expr} {f : DE} {g : DA} (ha : PE X e (tD X.K xs wx f)) (hr : PA X es (tDA X.K xs wx g)) (hs : starEach (e :: es) X.env = (false, eval e X.env) :: starEach es X.env := by rfl) : PA X (e :: es) (tDA X.K xs wx (acons f g)) := pa_imp (pa_cons ha hr hs) fun sg H Q h => by
  obtain ⟨G, io, st, env, ok, er, w⟩ := h
  refine ⟨G, io, st, env, ok, er, w.bind.impR fun st1 io1 H1 u ok1 e1 w1 v rv => ?_⟩
  refine ⟨G, io1, st1, env, ok1, er.ext ok.dj e1, w1.bind.impR fun st2 io2 H2 us ok2 e2 w2 vs rvs => ?_⟩
  exact w2.here ok2 _ (.cons (rv.ext e2) rvs)
theorem args_read {f : DA} {g : List U → Option U} {sg : L2.St} {H : Hp} {Q : VK} (h : tD X.K xs wx (appN g f) sg H Q) : tDA X.K xs wx f sg H (fun vs H1 => PN X.K g vs H1 Q) := by
  obtain ⟨G, io, st, env, ok, er, w⟩ := h
  refine ⟨G, io, st, env, ok, er, w.bind.impR fun st1 io1 H1 us ok1 e1 w1 vs rvs => ?_⟩
  obtain ⟨u, hu, w2⟩ := w1.pure
  exact ⟨G, io1, st1, us, u, ok1, rvs, hu, fun v H' s r => w2.hereS ok1 s v r⟩
theorem same_upd {H : Hp} {p : Addr} {o : HO} (h : H p = none) : Same H (upd H p o) := fun b x e => by
  rw [upd_ne (ne_of_none e h)]
  exact e
/-- new plain data -/
theorem Ok.newT {K : PySem.W.Frag} {G : Addr → Prop} {io : List Addr} {st : Store} {H : Hp} (ok : Ok K G io st H) {p : Addr} (hp : H p = none) {us : List U} {vs : List V} (r : Reps K (Wf G io) io H us vs) : Rep K (Wf G io) io (upd H p (.tup vs)) (.tup us) (.ref p) := by
  unfold Rep
  exact ⟨p, vs, rfl, .inl ⟨.inl upd_same, ok.fresh hp⟩, r.ext (Ext.same (same_upd hp))⟩
theorem Ok.newL {K : PySem.W.Frag} {G : Addr → Prop} {io : List Addr} {st : Store} {H : Hp} (ok : Ok K G io st H) {p : Addr} (hp : H p = none) {us : List U} {vs : List V} (r : Reps K (Wf G io) io H us vs) : Rep K (Wf G io) io (upd H p (.lst vs)) (.lst us) (.ref p) := by
  unfold Rep
  exact ⟨p, vs, rfl, ⟨upd_same, ok.fresh hp⟩, r.ext (Ext.same (same_upd hp))⟩
def szT (us : List U) : Option U := if us.length ≤ sizeLine then some (.tup us) else none
def szL (us : List U) : Option U := if us.length ≤ sizeLine then some (.lst us) else none
theorem d_tup {es : List Expr} {x1} {f : DA} (h : PA X es (tDA X.K xs wx f)) : PE X (.Tuple es x1 pos) (tD X.K xs wx (appN szT f)) := pe_imp (pe_tup h) fun sg H Q q => by
  obtain ⟨G, io, st, env, ok, er, w⟩ := args_read q
  refine ⟨G, io, st, env, ok, er, w.impR fun st1 io1 H1 us ok1 e1 w1 vs rvs => ?_⟩
  obtain ⟨G', io', st', us', u, ok', rvs', hu, fin⟩ := w1 vs rvs
  unfold szT at hu
  split at hu
  · rename_i hz
    cases hu
    refine ⟨by rw [← rvs'.length]; exact hz, fun p hp => fin _ _ (same_upd hp) (ok'.newT hp rvs')⟩
  · cases hu
theorem d_lst {es : List Expr} {f : DA} (h : PA X es (tDA X.K xs wx f)) : PE X (.List es pos) (tD X.K xs wx (appN szL f)) := pe_imp (pe_lst h) fun sg H Q q => by
  obtain ⟨G, io, st, env, ok, er, w⟩ := args_read q
  refine ⟨G, io, st, env, ok, er, w.impR fun st1 io1 H1 us ok1 e1 w1 vs rvs => ?_⟩
  obtain ⟨G', io', st', us', u, ok', rvs', hu, fin⟩ := w1 vs rvs
  unfold szL at hu
  split at hu
  · rename_i hz
    cases hu
    refine ⟨by rw [← rvs'.length]; exact hz, fun p hp => fin _ _ (same_upd hp) (ok'.newL hp rvs')⟩
  · cases hu
theorem d_callB {id : String} {x : Str} {p : Pos} {e : Expr} {es : List Expr} {g : List U → Option U} {f : DA} (hc : CallR X (.builtin id) (PN X.K g)) (hg : Gl X x) (hm : X.mg x = none) (hv : bootBuiltins x = some (.builtin id)) (ha : PA X (e :: es) (tDA X.K xs wx f)) (hn : x ≠ "__name__" := by decide)
    (hdb : (x == ("__debug__" : Str)) = false := by decide) (he : starEach (e :: es) X.env = (false, eval e X.env) :: starEach es X.env := by rfl) (hpl : (backTo pos (starEach es X.env)).any (·.1) = false := by rfl) : PE X (.Call (.Name x p) (e :: es) [] pos) (tD X.K xs wx (appN g f)) :=
  pe_imp (pe_callB hc hg hm hv ha hn hdb he hpl) fun _ _ _ h => args_read h
theorem d_callT {T : String} {x : Str} {p : Pos} {e : Expr} {es : List Expr} {g : List U → Option U} {f : DA} (hc : CallR X (.type T) (PN X.K g)) (hg : Gl X x) (hm : X.mg x = none) (hv : bootBuiltins x = some (.type T)) (ha : PA X (e :: es) (tDA X.K xs wx f)) (hn : x ≠ "__name__" := by decide)
    (hdb : (x == ("__debug__" : Str)) = false := by decide) (he : starEach (e :: es) X.env = (false, eval e X.env) :: starEach es X.env := by rfl) (hpl : (backTo pos (starEach es X.env)).any (·.1) = false := by rfl) : PE X (.Call (.Name x p) (e :: es) [] pos) (tD X.K xs wx (appN g f)) :=
  pe_imp (pe_callTy hc hg hm hv ha hn hdb he hpl) fun _ _ _ h => args_read h
def spD (K : PySem.W.Frag) (xs : XS) (n : Nat) (g : List U → Store → Rs U) : Sp := fun vs H Q E => vs.length = n ∧ ∃ G io st us, Ok K G io st H ∧ Reps K (Wf G io) io H us vs ∧
  Wants K G io H (fun _ io' H' u => ∀ v, Rep K (Wf G io') io' H' u v → Q v H') (fun c us _ _ H' => ∀ cls d, xs c us cls d H' → E cls d H') (g us st)
theorem d_call {k : Nat} {f : Addr} {fd : FuncData} {ps : List Str} {n : Nat} {x : Str} {p : Pos} {e : Expr} {es : List Expr} {g : List U → Store → Rs U} {fa : DA} (tk : Takes X wx) (F : FnOk X.prog X.w X.K X.mg X.base (L2.CX X.prog X.w) k f fd ps (spD X.K xs n g)) (hr : Room k X.A) (hg : Gl X x) (hm : X.mg x = some (.ref f))
    (hk : PySem.W.keepIn X.K (.ref f) = true) (hb : Binds X.K fd ps []) (hgn : ∀ us st, us.length ≠ n → g us st = .bad) (ha : PA X (e :: es) (tDA X.K xs wx fa)) (hdb : (x == ("__debug__" : Str)) = false := by decide)
    (he : starEach (e :: es) X.env = (false, eval e X.env) :: starEach es X.env := by rfl) (hpl : (backTo pos (starEach es X.env)).any (·.1) = false := by rfl) : PE X (.Call (.Name x p) (e :: es) [] pos) (tD X.K xs wx (appU g fa)) :=
  pe_imp (pe_callSD (E := WE wx) (dvs := []) F hr hg hm hk hb .nil (fun s => passAt tk s) ha hdb he hpl) fun sg H Q h => by
    obtain ⟨G, io, st, env, ok, er, w⟩ := h
    refine ⟨G, io, st, env, ok, er, w.bind.impR fun st1 io1 H1 us ok1 e1 w1 vs rvs => ?_⟩
    have hn : us.length = n := Decidable.byContradiction fun z => by rw [hgn us st1 z] at w1; exact w1
    exact ⟨by rw [List.append_nil, ← rvs.length]; exact hn, G, io1, st1, us, ok1, by rw [List.append_nil]; exact rvs, w1⟩
end
end D
namespace D
open PySem L2
inductive Out where
  | nx (env : Env) (st : Store) | rt (u : U) (st : Store) | bk (env : Env) (st : Store) | ct (env : Env) (st : Store) | ex (c : Str) (us : List (Str × U)) (env : Env) (st : Store) | bad
abbrev DS := Env → Store → Out
def Rs.out {A : Type} (r : Rs A) (env : Env) (k : A → Store → Out) : Out := match r with
  | .ok a st => k a st
  | .ex c us st => .ex c us env st
  | .bad => .bad
def Out.seq (o : Out) (k : Env → Store → Out) : Out := match o with
  | .nx env st => k env st
  | o => o
/-- what the frame owns -/
def Ow (env : Env) (sg : L2.St) (a : Addr) : Prop := ∃ (i : Nat) (us : List U), env[i]? = some (.own us) ∧ sg[i]? = some (some (.ref a))
def Gs (F : Addr → Prop) (env : Env) (sg : L2.St) : Addr → Prop := fun a => F a ∨ Ow env sg a
structure Fr (K : PySem.W.Frag) (F : Addr → Prop) (io : List Addr) (st : Store) (env : Env) (sg : L2.St) (H : Hp) : Prop where
  ok : Ok K (Gs F env sg) io st H
  er : EnvRep K (Gs F env sg) io H env sg
  nF : ∀ a, Ow env sg a → ¬ F a
  dd : ∀ (i j : Nat) (a : Addr) (us us' : List U), env[i]? = some (.own us) → env[j]? = some (.own us') → sg[i]? = some (some (.ref a)) → sg[j]? = some (some (.ref a)) → i = j
structure ExtO (io : List Addr) (H : Hp) (O : Addr → Prop) (io' : List Addr) (H' : Hp) (O' : Addr → Prop) : Prop where
  pre : ∃ more, io' = io ++ more ∧ ∀ a ∈ more, H a = none ∨ O a
  keep : ∀ a o, a ∉ io → ¬ O a → H a = some o → H' a = some o
  stay : ∀ a o, H a = some o → ∃ o', H' a = some o'
  own : ∀ a, O' a → O a ∨ H a = none
section
variable {K : PySem.W.Frag} {F : Addr → Prop} {io io1 io2 io' : List Addr} {st st' : Store} {env env' : Env} {sg sg' : L2.St} {H H1 H2 H' : Hp} {O O1 O2 : Addr → Prop}
theorem Ext.o (e : Ext io H io' H') (O : Addr → Prop) : ExtO io H O io' H' O := ⟨let ⟨m, q1, q2⟩ := e.pre; ⟨m, q1, fun a h => .inl (q2 a h)⟩, fun a o h _ q => e.keep a o h q, e.stay, fun _ h => .inl h⟩
theorem ExtO.refl (io : List Addr) (H : Hp) (O : Addr → Prop) : ExtO io H O io H O := (Ext.refl io H).o O
theorem ExtO.trans (a : ExtO io H O io1 H1 O1) (b : ExtO io1 H1 O1 io2 H2 O2) : ExtO io H O io2 H2 O2 := by
  obtain ⟨m1, e1, f1⟩ := a.pre
  obtain ⟨m2, e2, f2⟩ := b.pre
  have back : ∀ x, H1 x = none → H x = none := fun x h => by
    cases q : H x with
    | none => rfl
    | some o =>
      obtain ⟨o', e⟩ := a.stay x o q
      rw [e] at h; cases h
  refine ⟨⟨m1 ++ m2, by rw [e2, e1, List.append_assoc], fun x hx => ?_⟩, fun x o hx hO h => ?_, fun x o h => let ⟨o1, e1⟩ := a.stay x o h; b.stay x o1 e1, fun x h => ?_⟩
  · rcases List.mem_append.mp hx with h | h
    · exact f1 x h
    · rcases f2 x h with z | z
      · exact .inl (back x z)
      · exact (a.own x z).symm
  · refine b.keep x o (fun z => ?_) (fun z => ?_) (a.keep x o hx hO h)
    · rw [e1] at z
      rcases List.mem_append.mp z with z | z
      · exact hx z
      · rcases f1 x z with y | y
        · rw [y] at h; cases h
        · exact hO y
    · rcases a.own x z with z | z
      · exact hO z
      · rw [z] at h; cases h
  · rcases b.own x h with h | h
    · exact a.own x h
    · exact .inr (back x h)
/-- plain data under a statement -/
theorem ExtO.mono (e : ExtO io H (Ow env sg) io' H' (Ow env' sg')) : Mono (Gs F env sg) io H (Gs F env' sg') io' H' := by
  obtain ⟨m, rfl, f⟩ := e.pre
  refine ⟨⟨m, rfl⟩, fun a o n h => ⟨e.keep a o (fun z => n (.inr z)) (fun z => n (.inl (.inr z))) h, ?_⟩⟩
  rintro ((z | z) | z)
  · exact n (.inl (.inl z))
  · rcases e.own a z with z | z
    · exact n (.inl (.inr z))
    · rw [z] at h; cases h
  · rcases List.mem_append.mp z with z | z
    · exact n (.inr z)
    · rcases f a z with y | y
      · rw [y] at h; cases h
      · exact n (.inl (.inr y))
theorem Ok.mono {G G' : Addr → Prop} (ok : Ok K G io st H) (sub : ∀ a, G' a → G a) : Ok K G' io st H := by
  have m : Mono G io H G' io H := ⟨⟨[], by simp⟩, fun a o n h => ⟨h, fun z => n (z.imp (sub a) id)⟩⟩
  refine ⟨ok.nd, fun a h z => ok.dj a h (sub a z), fun a h => ok.trk a (h.imp (sub a) id), ok.len, fun n ob a e1 e2 => ?_⟩
  have q := ok.obs n ob a e1 e2
  cases ob with
  | lst us => obtain ⟨vs, q1, q2⟩ := q; exact ⟨vs, q1, q2.mono m⟩
  | dct ks us => obtain ⟨kvs, q1, q2, q3⟩ := q; exact ⟨kvs, q1, q2, q3.mono m⟩
  | dcT ks us => obtain ⟨kvs, q1, q2, q3⟩ := q; exact ⟨kvs, q1, q2, q3.mono m⟩
  | obj c fs => obtain ⟨C, dx, vs, q1, q2, q3⟩ := q; exact ⟨C, dx, vs, q1, q2, q3.mono m⟩
  | ins _ _ => exact q
  | gone => trivial
theorem Fr.ext (f : Fr K F io st env sg H) (ok : Ok K (Gs F env sg) io' st' H') (e : Ext io H io' H') : Fr K F io' st' env sg H' := ⟨ok, f.er.ext f.ok.dj e, f.nF, f.dd⟩
theorem ow_set_val {i : Nat} {u : U} {o : Option V} {a : Addr} (h : Ow (env.set i (.val u)) (sg.set i o) a) : Ow env sg a := by
  obtain ⟨j, us, h1, h2⟩ := h
  by_cases hj : i = j
  · subst hj
    by_cases hl : i < env.length
    · rw [List.getElem?_set_self hl] at h1; cases h1
    · rw [List.getElem?_eq_none (by simpa using Nat.le_of_not_lt hl)] at h1; cases h1
  · rw [List.getElem?_set_ne hj] at h1 h2
    exact ⟨j, us, h1, h2⟩
theorem Fr.setVal (f : Fr K F io st env sg H) {i : Nat} {u : U} {v : V} (r : Rep K (Wf (Gs F env sg) io) io H u v) :
    Fr K F io st (env.set i (.val u)) (sg.set i (some v)) H ∧ ExtO io H (Ow env sg) io H (Ow (env.set i (.val u)) (sg.set i (some v))) := by
  have sub : ∀ a, Gs F (env.set i (.val u)) (sg.set i (some v)) a → Gs F env sg a := fun a h => h.imp id ow_set_val
  have ex : ExtO io H (Ow env sg) io H (Ow (env.set i (.val u)) (sg.set i (some v))) := ⟨⟨[], by simp, fun _ h => nomatch h⟩, fun _ _ _ _ h => h, fun _ o h => ⟨o, h⟩, fun a h => .inl (ow_set_val h)⟩
  have m := ex.mono (F := F)
  refine ⟨⟨f.ok.mono sub, ⟨by simp [f.er.len], fun j s o h1 h2 => ?_⟩, fun a h => f.nF a (ow_set_val h), fun j k a us us' h1 h2 h3 h4 => ?_⟩, ex⟩
  · by_cases hj : i = j
    · subst hj
      by_cases hl : i < env.length
      · rw [List.getElem?_set_self hl] at h1
        rw [List.getElem?_set_self (by rw [← f.er.len]; exact hl)] at h2
        cases h1; cases h2
        exact ⟨v, rfl, r.mono m⟩
      · rw [List.getElem?_eq_none (by simpa using Nat.le_of_not_lt hl)] at h1; cases h1
    · have g1 := h1; have g2 := h2
      rw [List.getElem?_set_ne hj] at h1 h2
      have q := f.er.sl j s o h1 h2
      cases s with
      | un => trivial
      | val u' => obtain ⟨v', q1, q2⟩ := q; exact ⟨v', q1, q2.mono m⟩
      | own us =>
        obtain ⟨a, vs, q1, q2, q3, q4⟩ := q
        subst q1
        exact ⟨a, vs, rfl, .inr ⟨j, us, g1, g2⟩, q3, q4.mono m⟩
  · have nj : ∀ (k : Nat) (us : List U), (env.set i (.val u))[k]? = some (.own us) → i ≠ k := fun k us h e => by
      subst e
      by_cases hl : i < env.length
      · rw [List.getElem?_set_self hl] at h; cases h
      · rw [List.getElem?_eq_none (by simpa using Nat.le_of_not_lt hl)] at h; cases h
    have n1 := nj j us h1
    have n2 := nj k us' h2
    rw [List.getElem?_set_ne n1] at h1 h3
    rw [List.getElem?_set_ne n2] at h2 h4
    exact f.dd j k a us us' h1 h2 h3 h4
/-- a slot gets a list of its own, at a place that nothing else knows -/
theorem Fr.setOwn (f : Fr K F io st env sg H) {i : Nat} {us : List U} {vs : List V} {a : Addr} (na : H a = none) (r : Reps K (Wf (Gs F env sg) io) io H us vs) (hi : i < env.length) :
    Fr K F io st (env.set i (.own us)) (sg.set i (some (.ref a))) (upd H a (.lst vs)) ∧ ExtO io H (Ow env sg) io (upd H a (.lst vs)) (Ow (env.set i (.own us)) (sg.set i (some (.ref a)))) := by
  have hi' : i < sg.length := by rw [← f.er.len]; exact hi
  have ow : ∀ b, Ow (env.set i (.own us)) (sg.set i (some (.ref a))) b → b = a ∨ Ow env sg b := fun b h => by
    obtain ⟨j, us', h1, h2⟩ := h
    by_cases hj : i = j
    · subst hj
      rw [List.getElem?_set_self hi'] at h2
      cases h2; exact .inl rfl
    · rw [List.getElem?_set_ne hj] at h1 h2
      exact .inr ⟨j, us', h1, h2⟩
  have owa : Ow (env.set i (.own us)) (sg.set i (some (.ref a))) a := ⟨i, us, List.getElem?_set_self hi, List.getElem?_set_self hi'⟩
  have nW : ¬ Wf (Gs F env sg) io a := f.ok.fresh na
  have ne : ∀ b o, H b = some o → b ≠ a := fun b o h => ne_of_none h na
  have s : Same H (upd H a (.lst vs)) := same_upd na
  have ex : ExtO io H (Ow env sg) io (upd H a (.lst vs)) (Ow (env.set i (.own us)) (sg.set i (some (.ref a)))) := ⟨⟨[], by simp, fun _ h => nomatch h⟩, fun b o _ _ h => s b o h, fun b o h => ⟨o, s b o h⟩, fun b h => (ow b h).elim (fun e => .inr (e ▸ na)) .inl⟩
  have m := ex.mono (F := F)
  refine ⟨⟨⟨f.ok.nd, fun b hb z => ?_, fun b h => ?_, f.ok.len, fun n ob b e1 e2 => ?_⟩, ⟨by simp [f.er.len], fun j sl o h1 h2 => ?_⟩, fun b h z => ?_, fun j k b us1 us2 h1 h2 h3 h4 => ?_⟩, ex⟩
  · rcases z with z | z
    · exact f.ok.dj b hb (.inl z)
    · rcases ow b z with e | z
      · subst e; exact nW (.inr hb)
      · exact f.ok.dj b hb (.inr z)
  · rcases h with (z | z) | z
    · obtain ⟨o, e, x⟩ := f.ok.trk b (.inl (.inl z)); exact ⟨o, s b o e, x⟩
    · rcases ow b z with e | z
      · subst e; exact ⟨_, upd_same, nx_lst⟩
      · obtain ⟨o, e, x⟩ := f.ok.trk b (.inl (.inr z)); exact ⟨o, s b o e, x⟩
    · obtain ⟨o, e, x⟩ := f.ok.trk b (.inr z); exact ⟨o, s b o e, x⟩
  · have q := f.ok.obs n ob b e1 e2
    cases ob with
    | lst us' => obtain ⟨vs', q1, q2⟩ := q; exact ⟨vs', s _ _ q1, q2.mono m⟩
    | dct ks us => obtain ⟨kvs, q1, q2, q3⟩ := q; exact ⟨kvs, s _ _ q1, q2, q3.mono m⟩
    | dcT ks us => obtain ⟨kvs, q1, q2, q3⟩ := q; exact ⟨kvs, s _ _ q1, q2, q3.mono m⟩
    | obj c fs => obtain ⟨C, dx, vs, q1, q2, q3⟩ := q; exact ⟨C, dx, vs, q1, s _ _ q2, q3.mono m⟩
    | ins c fs => obtain ⟨C, d, q1, q2, q3⟩ := q; exact ⟨C, d, q1, s _ _ q2, q3.keep fun dd ws z => s _ _ z⟩
    | gone => trivial
  · by_cases hj : i = j
    · subst hj
      rw [List.getElem?_set_self hi] at h1
      rw [List.getElem?_set_self hi'] at h2
      cases h1; cases h2
      exact ⟨a, vs, rfl, .inr owa, upd_same, r.mono m⟩
    · have g1 := h1; have g2 := h2
      rw [List.getElem?_set_ne hj] at h1 h2
      have q := f.er.sl j sl o h1 h2
      cases sl with
      | un => trivial
      | val u' => obtain ⟨v', q1, q2⟩ := q; exact ⟨v', q1, q2.mono m⟩
      | own us' =>
        obtain ⟨b, vs', q1, q2, q3, q4⟩ := q
        subst q1
        exact ⟨b, vs', rfl, .inr ⟨j, us', g1, g2⟩, s _ _ q3, q4.mono m⟩
  · rcases ow b h with e | h
    · subst e; exact nW (.inl (.inl z))
    · exact f.nF b h z
  · have one : ∀ (j : Nat) (us1 : List U), (env.set i (.own us))[j]? = some (.own us1) → (sg.set i (some (.ref a)))[j]? = some (some (.ref b)) → (i = j ∧ b = a) ∨ (i ≠ j ∧ env[j]? = some (.own us1) ∧ sg[j]? = some (some (.ref b))) := fun j us1 h1 h3 => by
      by_cases hj : i = j
      · subst hj
        rw [List.getElem?_set_self hi'] at h3
        cases h3; exact .inl ⟨rfl, rfl⟩
      · rw [List.getElem?_set_ne hj] at h1 h3
        exact .inr ⟨hj, h1, h3⟩
    rcases one j us1 h1 h3 with ⟨e1, e2⟩ | ⟨_, p1, p2⟩
    · rcases one k us2 h2 h4 with ⟨e3, _⟩ | ⟨_, p1, p2⟩
      · exact e1.symm.trans e3
      · subst e2
        exact (nW (.inl (.inr ⟨k, us2, p1, p2⟩))).elim
    · rcases one k us2 h2 h4 with ⟨_, e2⟩ | ⟨_, p3, p4⟩
      · subst e2
        exact (nW (.inl (.inr ⟨j, us1, p1, p2⟩))).elim
      · exact f.dd j k b us1 us2 p1 p3 p2 p4
/-- a list of the frame's own turns -/
theorem Fr.turnOwn (f : Fr K F io st env sg H) {i : Nat} {us us' : List U} {vs' : List V} {a : Addr} (h1 : env[i]? = some (.own us)) (h2 : sg[i]? = some (some (.ref a))) (r : Reps K (Wf (Gs F env sg) io) io H us' vs') :
    Fr K F io st (env.set i (.own us')) sg (upd H a (.lst vs')) ∧ ExtO io H (Ow env sg) io (upd H a (.lst vs')) (Ow (env.set i (.own us')) sg) := by
  have hi : i < env.length := (List.getElem?_eq_some_iff.mp h1).1
  have oa : Ow env sg a := ⟨i, us, h1, h2⟩
  have ow : ∀ b, Ow (env.set i (.own us')) sg b ↔ Ow env sg b := fun b => by
    constructor
    · rintro ⟨j, w, h3, h4⟩
      by_cases hj : i = j
      · subst hj; exact ⟨i, us, h1, h4⟩
      · rw [List.getElem?_set_ne hj] at h3
        exact ⟨j, w, h3, h4⟩
    · rintro ⟨j, w, h3, h4⟩
      by_cases hj : i = j
      · subst hj; exact ⟨i, us', List.getElem?_set_self hi, h4⟩
      · exact ⟨j, w, by rw [List.getElem?_set_ne hj]; exact h3, h4⟩
  have keep : ∀ b o, b ≠ a → H b = some o → (upd H a (.lst vs')) b = some o := fun b o n h => by rw [upd_ne n]; exact h
  have ex : ExtO io H (Ow env sg) io (upd H a (.lst vs')) (Ow (env.set i (.own us')) sg) := ⟨⟨[], by simp, fun _ h => nomatch h⟩, fun b o _ n h => keep b o (fun e => n (e ▸ oa)) h, fun b o h => by
    by_cases e : b = a
    · subst e; exact ⟨_, upd_same⟩
    · exact ⟨o, keep b o e h⟩, fun b h => .inl ((ow b).mp h)⟩
  have m := ex.mono (F := F)
  have nio : a ∉ io := fun z => f.ok.dj a z (.inr oa)
  have nxa : ∀ (dd : Addr) (ws : List (Str × V)), H dd = some (.xd ws) → dd ≠ a := fun dd ws z e => by
    subst e
    obtain ⟨o, e1, x⟩ := f.ok.trk dd (.inl (.inr oa))
    rw [z] at e1; cases e1; exact x ws rfl
  refine ⟨⟨⟨f.ok.nd, fun b hb z => f.ok.dj b hb (z.imp id (ow b).mp), fun b h => ?_, f.ok.len, fun n ob b e1 e2 => ?_⟩, ⟨by simp [f.er.len], fun j sl o g1 g2 => ?_⟩, fun b h z => f.nF b ((ow b).mp h) z, fun j k b us1 us2 g1 g2 g3 g4 => ?_⟩, ex⟩
  · obtain ⟨o, e, x⟩ := f.ok.trk b (h.imp (fun z => z.imp id (ow b).mp) id)
    by_cases hb : b = a
    · subst hb; exact ⟨_, upd_same, nx_lst⟩
    · exact ⟨o, keep b o hb e, x⟩
  · have q := f.ok.obs n ob b e1 e2
    have nb : b ≠ a := fun e => nio (e ▸ List.mem_of_getElem? e2)
    cases ob with
    | lst us' => obtain ⟨vs', q1, q2⟩ := q; exact ⟨vs', keep _ _ nb q1, q2.mono m⟩
    | dct ks us => obtain ⟨kvs, q1, q2, q3⟩ := q; exact ⟨kvs, keep _ _ nb q1, q2, q3.mono m⟩
    | dcT ks us => obtain ⟨kvs, q1, q2, q3⟩ := q; exact ⟨kvs, keep _ _ nb q1, q2, q3.mono m⟩
    | obj c fs => obtain ⟨C, dx, vs, q1, q2, q3⟩ := q; exact ⟨C, dx, vs, q1, keep _ _ nb q2, q3.mono m⟩
    | ins c fs => obtain ⟨C, d, q1, q2, q3⟩ := q; exact ⟨C, d, q1, keep _ _ nb q2, q3.keep fun dd ws z => keep _ _ (nxa dd ws z) z⟩
    | gone => trivial
  · by_cases hj : i = j
    · subst hj
      rw [List.getElem?_set_self hi] at g1
      rw [h2] at g2
      cases g1; cases g2
      exact ⟨a, vs', rfl, .inr ((ow a).mpr oa), upd_same, r.mono m⟩
    · have g1' := g1
      rw [List.getElem?_set_ne hj] at g1
      have q := f.er.sl j sl o g1 g2
      cases sl with
      | un => trivial
      | val u' => obtain ⟨v', q1, q2⟩ := q; exact ⟨v', q1, q2.mono m⟩
      | own w =>
        obtain ⟨b, vs1, q1, q2, q3, q4⟩ := q
        subst q1
        have nb : b ≠ a := fun e => hj (f.dd i j a us w h1 g1 h2 (e ▸ g2))
        exact ⟨b, vs1, rfl, .inr ⟨j, w, g1', g2⟩, keep _ _ nb q3, q4.mono m⟩
  · have back : ∀ (j : Nat) (w : List U), (env.set i (.own us'))[j]? = some (.own w) → ∃ w', env[j]? = some (.own w') := fun j w h => by
      by_cases hj : i = j
      · subst hj; exact ⟨us, h1⟩
      · rw [List.getElem?_set_ne hj] at h; exact ⟨w, h⟩
    obtain ⟨w1, e1⟩ := back j us1 g1
    obtain ⟨w2, e2⟩ := back k us2 g2
    exact f.dd j k b w1 w2 e1 e2 g3 g4
end
/-- what is wanted behind a statement -/
def WantsS (K : PySem.W.Frag) (F : Addr → Prop) (io : List Addr) (H : Hp) (O : Addr → Prop) (D : Ends) (xs : XS) (wx : WX) : Out → Prop
  | .nx env' st' => ∀ io' sg' H', Fr K F io' st' env' sg' H' → ExtO io H O io' H' (Ow env' sg') → D.nx sg' H'
  | .bk env' st' => ∀ io' sg' H', Fr K F io' st' env' sg' H' → ExtO io H O io' H' (Ow env' sg') → D.bk sg' H'
  | .ct env' st' => ∀ io' sg' H', Fr K F io' st' env' sg' H' → ExtO io H O io' H' (Ow env' sg') → D.ct sg' H'
  | .rt u st' => ∀ io' H' v, Ok K F io' st' H' → ExtO io H O io' H' (fun _ => False) → Rep K (Wf F io') io' H' u v → D.rt v H'
  | .ex c us env' st' => ∀ io' sg' H', Fr K F io' st' env' sg' H' → ExtO io H O io' H' (Ow env' sg') → ∀ cls d, xs c us cls d H' → wx cls d sg' H'
  | .bad => False
def tDS (K : PySem.W.Frag) (xs : XS) (wx : WX) (f : DS) : TS := fun D sg H => ∃ F io st env, Fr K F io st env sg H ∧ WantsS K F io H (Ow env sg) D xs wx (f env st)
section
variable {K : PySem.W.Frag} {F : Addr → Prop} {io io1 : List Addr} {st : Store} {env env1 : Env} {sg : L2.St} {H H1 : Hp} {O O1 : Addr → Prop} {D : Ends} {xs : XS} {wx : WX}
theorem WantsS.later {o : Out} (h : WantsS K F io H O D xs wx o) (e : ExtO io H O io1 H1 O1) : WantsS K F io1 H1 O1 D xs wx o := by
  cases o with
  | nx env' st' => exact fun io' sg' H' f e' => h io' sg' H' f (e.trans e')
  | bk env' st' => exact fun io' sg' H' f e' => h io' sg' H' f (e.trans e')
  | ct env' st' => exact fun io' sg' H' f e' => h io' sg' H' f (e.trans e')
  | rt u st' => exact fun io' H' v f e' => h io' H' v f (e.trans e')
  | ex c us env' st' => exact fun io' sg' H' f e' => h io' sg' H' f (e.trans e')
  | bad => exact h
/-- an expression within a statement -/
theorem WantsS.expr {A : Type} {r : Rs A} {k : A → Store → Out} (f : Fr K F io st env sg H) (h : WantsS K F io H (Ow env sg) D xs wx (r.out env k)) :
    Wants K (Gs F env sg) io H (fun st1 io1 H1 a => Fr K F io1 st1 env sg H1 ∧ WantsS K F io1 H1 (Ow env sg) D xs wx (k a st1)) (XW xs wx sg) r := by
  cases r with
  | ok a st1 => exact fun io' H' ok e => ⟨f.ext ok e, WantsS.later h (e.o _)⟩
  | ex c us st1 => exact fun io' H' ok e => h io' sg H' (f.ext ok e) (e.o _)
  | bad => exact h
end
section
variable {X : Cx} {xs : XS} {wx : WX} {pos : Pos}
def sNil : DS := fun env st => .nx env st
def sSeq (f g : DS) : DS := fun env st => (f env st).seq g
theorem ss_nil : PSs X [] (tDS X.K xs wx sNil) := pss_imp pss_nil fun D sg H h => by
  obtain ⟨F, io, st, env, f, w⟩ := h
  exact w io sg H f (ExtO.refl _ _ _)
theorem ss_cons {s : Stmt} {rest : List Stmt} {f g : DS} (h1 : PS X s (tDS X.K xs wx f)) (h2 : PSs X rest (tDS X.K xs wx g)) : PSs X (s :: rest) (tDS X.K xs wx (sSeq f g)) := pss_imp (pss_cons h1 h2) fun D sg H h => by
  obtain ⟨F, io, st, env, fr, w⟩ := h
  refine ⟨F, io, st, env, fr, ?_⟩
  unfold sSeq at w
  cases q : f env st with
  | nx env' st' =>
    rw [q] at w
    exact fun io' sg' H' fr' e' => ⟨F, io', st', env', fr', WantsS.later w e'⟩
  | _ => rw [q] at w; exact w
def sExpr (f : DE) : DS := fun env st => (f env st).out env fun _ st1 => .nx env st1
def sRet (f : DE) : DS := fun env st => (f env st).out env fun u st1 => .rt u st1
theorem s_ret {e : Expr} {f : DE} (he : PE X e (tD X.K xs wx f)) : PS X (.Return (some e) pos) (tDS X.K xs wx (sRet f)) := ps_imp (ps_ret he) fun D sg H h => by
  obtain ⟨F, io, st, env, fr, w⟩ := h
  refine ⟨Gs F env sg, io, st, env, fr.ok, fr.er, (WantsS.expr fr w).impR fun st1 io1 H1 a ok1 e1 q v rv => ?_⟩
  have m : Mono (Gs F env sg) io1 H1 F io1 H1 := ⟨⟨[], by simp⟩, fun a o n h => ⟨h, fun z => n (z.imp .inl id)⟩⟩
  exact q.2 io1 H1 v (q.1.ok.mono fun _ => .inl) ⟨⟨[], by simp, fun _ h => nomatch h⟩, fun _ _ _ _ h => h, fun _ o h => ⟨o, h⟩, fun _ h => h.elim⟩ (rv.mono m)
def sIf (c : DT) (f g : DS) : DS := fun env st => (c env st).out env fun b st1 => if b = true then f env st1 else g env st1
theorem s_if {c : Expr} {a b : List Stmt} {t : DT} {f g : DS} (hc : PT X c (tDT X.K xs wx t)) (ha : PSs X a (tDS X.K xs wx f)) (hb : PSs X b (tDS X.K xs wx g)) : PS X (.If c a b pos) (tDS X.K xs wx (sIf t f g)) := ps_imp (ps_if hc ha hb) fun D sg H h => by
  obtain ⟨F, io, st, env, fr, w⟩ := h
  refine ⟨Gs F env sg, io, st, env, fr.ok, fr.er, (WantsS.expr fr w).impR fun st1 io1 H1 b ok1 e1 q => ?_⟩
  cases b with
  | true => exact ⟨F, io1, st1, env, q.1, q.2⟩
  | false => exact ⟨F, io1, st1, env, q.1, q.2⟩
def sSet (i : Nat) (f : DE) : DS := fun env st => (f env st).out env fun u st1 => .nx (env.set i (.val u)) st1
theorem s_set {i : Nat} {x : Str} {e : Expr} {f : DE} {pos' : Pos} (hN : X.N.Nodup) (hi : X.N[i]? = some x) (hx : Loc X.env.scope x) (he : PE X e (tD X.K xs wx f)) (hs : swapsWith e (some (.Name x pos')) pos.line X.env = Pure.pure false := by rfl)
    (hf : X.fn x = true ∨ X.env.scope.names.lookup x = some .local := by first | exact .inl rfl | exact .inr rfl | assumption) : PS X (.Assign [.Name x pos'] e pos) (tDS X.K xs wx (sSet i f)) := ps_imp (ps_set hN hi hx he hs hf) fun D sg H h => by
  obtain ⟨F, io, st, env, fr, w⟩ := h
  refine ⟨Gs F env sg, io, st, env, fr.ok, fr.er, (WantsS.expr fr w).impR fun st1 io1 H1 u ok1 e1 q v rv => ?_⟩
  have z := q.1.setVal (i := i) rv
  exact q.2 io1 _ H1 z.1 z.2
/-- a new list -/
abbrev DL := Env → Store → Rs (List U)
def tDL (K : PySem.W.Frag) (xs : XS) (wx : WX) (f : DL) : TE := fun sg H Q => ∃ G io st env, Ok K G io st H ∧ EnvRep K G io H env sg ∧
  Wants K G io H (fun _ io' H' us => ∀ vs a, Reps K (Wf G io') io' H' us vs → H' a = none → Q (.ref a) (upd H' a (.lst vs))) (XW xs wx sg) (f env st)
def newL (f : DL) : DE := fun env st => (f env st).bind fun us st1 => .ok (.lst us) st1
theorem d_new {e : Expr} {f : DL} (h : PE X e (tDL X.K xs wx f)) : PE X e (tD X.K xs wx (newL f)) := pe_imp h fun sg H Q q => by
  obtain ⟨G, io, st, env, ok, er, w⟩ := q
  refine ⟨G, io, st, env, ok, er, w.bind.impR fun st1 io1 H1 us ok1 e1 w1 vs a rvs na => ?_⟩
  exact w1.hereS ok1 (same_upd na) _ (ok1.newL na rvs)
def szDL (f : DA) : DL := fun env st => (f env st).bind fun us st1 => if us.length ≤ sizeLine then .ok us st1 else .bad
theorem l_lst {es : List Expr} {f : DA} (h : PA X es (tDA X.K xs wx f)) : PE X (.List es pos) (tDL X.K xs wx (szDL f)) := pe_imp (pe_lst h) fun sg H Q q => by
  obtain ⟨G, io, st, env, ok, er, w⟩ := q
  refine ⟨G, io, st, env, ok, er, w.bind.impR fun st1 io1 H1 us ok1 e1 w1 vs rvs => ?_⟩
  split at w1
  · rename_i hz
    exact ⟨by rw [← rvs.length]; exact hz, fun p hp => w1.here ok1 vs p rvs hp⟩
  · exact w1.elim
def sOwn (i : Nat) (f : DL) : DS := fun env st => (f env st).out env fun us st1 => if i < env.length then .nx (env.set i (.own us)) st1 else .bad
theorem s_own {i : Nat} {x : Str} {e : Expr} {f : DL} {pos' : Pos} (hN : X.N.Nodup) (hi : X.N[i]? = some x) (hx : Loc X.env.scope x) (he : PE X e (tDL X.K xs wx f)) (hs : swapsWith e (some (.Name x pos')) pos.line X.env = Pure.pure false := by rfl)
    (hf : X.fn x = true ∨ X.env.scope.names.lookup x = some .local := by first | exact .inl rfl | exact .inr rfl | assumption) : PS X (.Assign [.Name x pos'] e pos) (tDS X.K xs wx (sOwn i f)) := ps_imp (ps_set hN hi hx he hs hf) fun D sg H h => by
  obtain ⟨F, io, st, env, fr, w⟩ := h
  refine ⟨Gs F env sg, io, st, env, fr.ok, fr.er, (WantsS.expr fr w).impR fun st1 io1 H1 us ok1 e1 q vs a rvs na => ?_⟩
  have q2 := q.2
  split at q2
  · rename_i hl
    have z := q.1.setOwn (i := i) na rvs hl
    exact q2 io1 _ _ z.1 z.2
  · exact q2.elim
def sApp (i : Nat) (f : DE) : DS := fun env st => match env[i]? with
  | some (.own us) => (f env st).out env fun u st1 => if us.length < sizeLine then .nx (env.set i (.own (us ++ [u]))) st1 else .bad
  | _ => .bad
theorem Fr.slot {K : PySem.W.Frag} {F : Addr → Prop} {io : List Addr} {st : Store} {env : Env} {sg : L2.St} {H : Hp} (f : Fr K F io st env sg H) {i : Nat} {us : List U} (h : env[i]? = some (.own us)) : ∃ a vs, sg[i]? = some (some (.ref a)) ∧ H a = some (.lst vs) ∧ Reps K (Wf (Gs F env sg) io) io H us vs := by
  have hi : i < sg.length := by rw [← f.er.len]; exact (List.getElem?_eq_some_iff.mp h).1
  obtain ⟨a, vs, q1, _, q3, q4⟩ := f.er.sl i _ _ h (List.getElem?_eq_getElem hi)
  exact ⟨a, vs, (List.getElem?_eq_getElem hi).trans (congrArg some q1), q3, q4⟩
theorem s_app {i : Nat} {x : Str} {e : Expr} {f : DE} {p1 p2 : Pos} (hN : X.N[i]? = some x) (hv : Vis X.env.scope x) (he : PE X e (tD X.K xs wx f)) (hd : (x == ("__debug__" : Str)) = false := by decide) (hcd : (x == ("__classdict__" : Str)) = false := by decide)
    (hfew : ((backTo pos (starEach [e] X.env)).all (fun x => !x.1) && (backToKw pos (keywordEach [] X.env)).all (fun x => x.1.isSome) && decide ([e].length + ([] : List Keyword).length + (if ([] : List Keyword).isEmpty then 0 else 1) < 30)) = true := by rfl)
    (hline : (p1.endLine == pos.line) = true := by rfl) (hs : starEach (e :: []) X.env = (false, eval e X.env) :: starEach [] X.env := by rfl) (hplain : (backTo pos (starEach [] X.env)).any (·.1) = false := by rfl)
    (hsw : swapsWith (.Call (.Attribute (.Name x p2) "append" p1) [e] [] pos) none pos.line X.env = Pure.pure false := by rfl) {pos2 : Pos} :
    PS X (.Expr (.Call (.Attribute (.Name x p2) "append" p1) [e] [] pos) pos2) (tDS X.K xs wx (sApp i f)) := by
  refine ps_imp (ps_expr (pe_bm PySem.F.plainAttrs_list PySem.F.slot_list_append PySem.F.type_list_append mt_append (pe_var (i := i) hN hv hd hcd) (pa_cons he pa_nil hs) (by rfl) hfew hline hs hplain) hsw) fun D sg H h => ?_
  obtain ⟨F, io, st, env, fr, w⟩ := h
  unfold sApp at w
  split at w
  · rename_i us q
    obtain ⟨a, vs, e1, e2, r⟩ := fr.slot q
    refine ⟨.ref a, e1, .inl ⟨rfl, vs, .inl (.inl e2)⟩, ?_⟩
    refine ⟨Gs F env sg, io, st, env, fr.ok, fr.er, (WantsS.expr fr w).impR fun st1 io1 H1 u ok1 ex1 z v rv => ?_⟩
    have z2 := z.2
    obtain ⟨a', vs', e1', e2', r'⟩ := z.1.slot q
    rw [e1] at e1'; cases e1'
    split at z2
    · rename_i hl
      refine ⟨a, vs', v, rfl, rfl, e2', by rw [← r'.length]; exact hl, ?_⟩
      have y := z.1.turnOwn q e1 (r'.append (.cons rv .nil))
      exact z2 io1 _ _ y.1 y.2
    · exact z2.elim
  · exact w.elim
end
end D
namespace D
open PySem L2
abbrev Tg := U → Option (List (Nat × U))
def setE (env : Env) (l : List (Nat × U)) : Env := l.foldl (fun e p => e.set p.1 (.val p.2)) env
def setS (sg : L2.St) (l : List (Nat × V)) : L2.St := l.foldl (fun e p => e.set p.1 (some p.2)) sg
def gD (K : PySem.W.Frag) (t : Tg) : TG := fun v sg H Q => ∃ G io u l, Rep K (Wf G io) io H u v ∧ t u = some l ∧ ∀ vs, Reps K (Wf G io) io H (l.map (·.2)) vs → Q (setS sg ((l.map (·.1)).zip vs)) H
theorem pg_imp {X : Cx} {e : Expr} {t t' : TG} (h : PG X e t) (f : ∀ v sg H Q, t' v sg H Q → t v sg H Q) : PG X e t' := ⟨fun pins s sg H v u Q I r q => h.run pins s sg H v u Q I r (f v sg H Q q)⟩
def tgN (i : Nat) : Tg := fun u => some [(i, u)]
def tgT (is : List Nat) : Tg := fun u => match u with
  | .tup us => if us.length = is.length then some (is.zip us) else none
  | _ => none
section
variable {X : Cx} {xs : XS} {wx : WX} {pos : Pos}
theorem g_name {i : Nat} {x : Str} (hN : X.N.Nodup) (hi : X.N[i]? = some x) (hx : Loc X.env.scope x) (hf : X.fn x = true ∨ X.env.scope.names.lookup x = some .local := by first | exact .inl rfl | exact .inr rfl | assumption) : PG X (.Name x pos) (gD X.K (tgN i)) :=
  pg_imp (pg_name hN hi hx hf) fun v sg H Q h => by
    obtain ⟨G, io, u, l, r, e, q⟩ := h
    cases e
    exact q [v] (.cons r .nil)
/-- several names -/
inductive GNames (X : Cx) : List Expr → List Nat → Prop
  | nil : GNames X [] []
  | cons {x : Str} {p : Pos} {i : Nat} {es : List Expr} {is : List Nat} (hi : X.N[i]? = some x) (hx : Loc X.env.scope x) (hf : X.fn x = true ∨ X.env.scope.names.lookup x = some .local) (t : GNames X es is) : GNames X (.Name x p :: es) (i :: is)
def gSet : List Nat → TGs
  | [] => gNil
  | i :: is => gCons (gName i) (gSet is)
theorem GNames.pgs (hN : X.N.Nodup) : ∀ {es : List Expr} {is : List Nat}, GNames X es is → PGs X es (gSet is) ∧ (assignEach es X.env).length = is.length ∧ (assignEach es X.env).findIdx? (·.1) = none
  | _, _, .nil => ⟨pgs_nil, rfl, rfl⟩
  | _, _, .cons hi hx hf t => by
    obtain ⟨h1, h2, h3⟩ := GNames.pgs hN t
    refine ⟨pgs_cons (pg_name hN hi hx hf) h1 rfl, ?_, ?_⟩
    · show (_ :: assignEach _ X.env).length = _
      simp [h2]
    · show List.findIdx? _ ((false, _) :: assignEach _ X.env) = none
      rw [List.findIdx?_cons]
      simp [h3]
theorem gSet_of {Q : L2.St → Hp → Prop} {H : Hp} : ∀ (is : List Nat) (vs : List V) (sg : L2.St), vs.length = is.length → Q (setS sg (is.zip vs)) H → gSet is vs sg H Q
  | [], vs, sg, hl, h => ⟨List.eq_nil_of_length_eq_zero (by simpa using hl), h⟩
  | i :: is, [], sg, hl, h => by simp at hl
  | i :: is, v :: vs, sg, hl, h => ⟨v, vs, rfl, gSet_of is vs (sg.set i (some v)) (by simpa using hl) h⟩
theorem zip_fst {α β : Type} : ∀ (a : List α) (b : List β), b.length = a.length → (a.zip b).map (·.1) = a
  | [], _, _ => by simp
  | x :: a, [], h => by simp at h
  | x :: a, y :: b, h => by simp [zip_fst a b (by simpa using h)]
theorem zip_snd {α β : Type} : ∀ (a : List α) (b : List β), b.length = a.length → (a.zip b).map (·.2) = b
  | [], b, h => by simp at h; simp [h]
  | x :: a, [], h => by simp at h
  | x :: a, y :: b, h => by simp [zip_snd a b (by simpa using h)]
end
section
variable {K : PySem.W.Frag} {F G : Addr → Prop} {io : List Addr} {st : Store} {env : Env} {sg : L2.St} {H : Hp}
theorem EnvRep.setVal (e : EnvRep K G io H env sg) {i : Nat} {u : U} {v : V} (r : Rep K (Wf G io) io H u v) : EnvRep K G io H (env.set i (.val u)) (sg.set i (some v)) := ⟨by simp [e.len], fun j s o h1 h2 => by
  by_cases hj : i = j
  · subst hj
    by_cases hl : i < env.length
    · rw [List.getElem?_set_self hl] at h1
      rw [List.getElem?_set_self (by rw [← e.len]; exact hl)] at h2
      cases h1; cases h2
      exact ⟨v, rfl, r⟩
    · rw [List.getElem?_eq_none (by simpa using Nat.le_of_not_lt hl)] at h1; cases h1
  · rw [List.getElem?_set_ne hj] at h1 h2
    exact e.sl j s o h1 h2⟩
theorem EnvRep.setAll : ∀ (l : List (Nat × U)) (vs : List V) {env : Env} {sg : L2.St}, EnvRep K G io H env sg → Reps K (Wf G io) io H (l.map (·.2)) vs → EnvRep K G io H (setE env l) (setS sg ((l.map (·.1)).zip vs))
  | [], vs, _, _, e, r => by simpa [setE, setS] using e
  | p :: l, vs, _, _, e, r => by
    obtain ⟨v, vr, rfl, r1, r2⟩ := r.uncons
    exact EnvRep.setAll l vr (e.setVal r1) r2
theorem EnvRep.wipe1 (e : EnvRep K G io H env sg) (i : Nat) : EnvRep K G io H (env.set i .un) (sg.set i none) := ⟨by simp [e.len], fun j s o h1 h2 => by
  by_cases hj : i = j
  · subst hj
    by_cases hl : i < env.length
    · rw [List.getElem?_set_self hl] at h1
      cases h1
      trivial
    · rw [List.getElem?_eq_none (by simpa using Nat.le_of_not_lt hl)] at h1; cases h1
  · rw [List.getElem?_set_ne hj] at h1 h2
    exact e.sl j s o h1 h2⟩
def wipeE (env : Env) : List Nat → Env
  | [] => env
  | v :: vs => (wipeE env vs).set v .un
theorem EnvRep.wipe (e : EnvRep K G io H env sg) : ∀ vs : List Nat, EnvRep K G io H (wipeE env vs) (L2.wipe sg vs)
  | [] => e
  | v :: vs => (EnvRep.wipe e vs).wipe1 v
theorem Fr.setAll : ∀ (l : List (Nat × U)) (vs : List V) {env : Env} {sg : L2.St}, Fr K F io st env sg H → Reps K (Wf (Gs F env sg) io) io H (l.map (·.2)) vs →
    Fr K F io st (setE env l) (setS sg ((l.map (·.1)).zip vs)) H ∧ ExtO io H (Ow env sg) io H (Ow (setE env l) (setS sg ((l.map (·.1)).zip vs)))
  | [], vs, _, _, f, r => by simpa [setE, setS] using ⟨f, ExtO.refl _ _ _⟩
  | p :: l, vs, _, _, f, r => by
    obtain ⟨v, vr, rfl, r1, r2⟩ := r.uncons
    obtain ⟨f1, e1⟩ := f.setVal (i := p.1) r1
    obtain ⟨f2, e2⟩ := Fr.setAll l vr f1 (r2.mono (e1.mono (F := F)))
    exact ⟨f2, e1.trans e2⟩
end
structure Wk (K : PySem.W.Frag) (G : Addr → Prop) (J : It) (io : List Addr) (H : Hp) (us : List U) : Prop where
  go : ∀ (i : Nat) G' io' st' H', Ok K G' io' st' H' → Mono G io H G' io' H' → i < us.length → J.go i H' ∧ ∀ x H'', J.yld i H' x H'' → Same H' H'' ∧ ∃ u, us[i]? = some u ∧ Rep K (Wf G' io') io' H'' u x
  stop : ∀ (i : Nat) G' io' st' H', Ok K G' io' st' H' → Mono G io H G' io' H' → us.length ≤ i → J.stop i H'
def tI (K : PySem.W.Frag) (xs : XS) (wx : WX) (f : DL) : TI := fun sg H R => ∃ G io st env, Ok K G io st H ∧ EnvRep K G io H env sg ∧
  Wants K G io H (fun _ io' H' us => ∀ J, Wk K G J io' H' us → R J H') (XW xs wx sg) (f env st)
theorem pi_imp {X : Cx} {tg e : Expr} {t t' : TI} (h : PI X tg e t) (f : ∀ sg H R, t' sg H R → t sg H R) : PI X tg e t' := ⟨fun pins s sg H R I q => h.run pins s sg H R I (f sg H R q)⟩
theorem Mono.refl (G : Addr → Prop) (io : List Addr) (H : Hp) : Mono G io H G io H := (Ext.refl io H).mono
theorem Mono.trans {G G1 G2 : Addr → Prop} {io io1 io2 : List Addr} {H H1 H2 : Hp} (a : Mono G io H G1 io1 H1) (b : Mono G1 io1 H1 G2 io2 H2) : Mono G io H G2 io2 H2 := by
  obtain ⟨m1, rfl⟩ := a.pre
  obtain ⟨m2, rfl⟩ := b.pre
  exact ⟨⟨m1 ++ m2, by rw [List.append_assoc]⟩, fun x o n h => let ⟨h1, n1⟩ := a.keep x o n h; b.keep x o n1 h1⟩
/-- the items of a thing that is walked as it lies -/
def items : U → Option (List U)
  | .lst us => some us
  | .tup us => some us
  | .str x => some (x.cps.toList.map fun c => U.str ⟨#[c]⟩)
  | .scr ns => some (ns.map U.int)
  | _ => none
def itemsD (f : DE) : DL := fun env st => (f env st).bind fun u st1 => Rs.of (items u) st1
section
variable {K : PySem.W.Frag} {G : Addr → Prop} {io : List Addr} {H : Hp}
theorem wk_list {a : Addr} {us : List U} {vs : List V} (h : LL K (Wf G io) H a vs) (r : Reps K (Wf G io) io H us vs) : Wk K G (Itl K a) io H us := by
  refine ⟨fun i G' io' st' H' ok m hi => ?_, fun i G' io' st' H' ok m hi => ⟨vs, (h.mono m).sq, by rw [← r.length]; exact hi⟩⟩
  obtain ⟨v, hv, rv⟩ := r.get (List.getElem?_eq_getElem hi)
  refine ⟨⟨vs, v, (h.mono m).sq, hv⟩, fun x H'' y => ?_⟩
  obtain ⟨rfl, y⟩ := y
  have e := (y vs (h.mono m).sq).symm.trans hv
  cases e
  exact ⟨Same.refl _, _, List.getElem?_eq_getElem hi, rv.mono m⟩
theorem wk_scr {a : Addr} {ns : List Int} (h : LS K (Wf G io) H a (ns.map V.int)) : Wk K G (Itl K a) io H (ns.map U.int) := by
  have r : Reps K (Wf G io) io H (ns.map U.int) (ns.map V.int) := Reps.ints ns
  refine ⟨fun i G' io' st' H' ok m hi => ?_, fun i G' io' st' H' ok m hi => ⟨_, (h.mono m).sq, by rw [← r.length]; exact hi⟩⟩
  obtain ⟨v, hv, rv⟩ := r.get (List.getElem?_eq_getElem hi)
  refine ⟨⟨_, v, (h.mono m).sq, hv⟩, fun x H'' y => ?_⟩
  obtain ⟨rfl, y⟩ := y
  have e := (y _ (h.mono m).sq).symm.trans hv
  cases e
  exact ⟨Same.refl _, _, List.getElem?_eq_getElem hi, rv.mono m⟩
theorem wk_tup {a : Addr} {us : List U} {vs : List V} (h : LT K (Wf G io) H a vs) (r : Reps K (Wf G io) io H us vs) : Wk K G (Itt K a) io H us := by
  refine ⟨fun i G' io' st' H' ok m hi => ?_, fun i G' io' st' H' ok m hi => ⟨vs, (h.mono m).sq, by rw [← r.length]; exact hi⟩⟩
  obtain ⟨v, hv, rv⟩ := r.get (List.getElem?_eq_getElem hi)
  refine ⟨⟨vs, v, (h.mono m).sq, hv⟩, fun x H'' y => ?_⟩
  obtain ⟨rfl, y⟩ := y
  have e := (y vs (h.mono m).sq).symm.trans hv
  cases e
  exact ⟨Same.refl _, _, List.getElem?_eq_getElem hi, rv.mono m⟩
theorem wk_str (x : Str) : Wk K G (Its x) io H (x.cps.toList.map fun c => U.str ⟨#[c]⟩) := by
  refine ⟨fun i G' io' st' H' ok m hi => ?_, fun i G' io' st' H' ok m hi => ?_⟩
  · have hi' : i < x.cps.size := by simpa using hi
    refine ⟨hi', fun v H'' y => ?_⟩
    obtain ⟨rfl, c, hc, rfl⟩ := y
    refine ⟨Same.refl _, .str ⟨#[c]⟩, ?_, by unfold Rep; rfl⟩
    rw [List.getElem?_map, Array.getElem?_toList, hc]; rfl
  · show x.cps.size ≤ i
    simpa using hi
theorem wk_range (lo : Int) (n : Nat) : Wk K G (Itr lo n) io H ((List.range n).map fun i => U.int (lo + (i : Nat))) := by
  refine ⟨fun i G' io' st' H' ok m hi => ?_, fun i G' io' st' H' ok m hi => ?_⟩
  · have hi' : i < n := by simpa using hi
    refine ⟨hi', fun v H'' y => ?_⟩
    obtain ⟨rfl, rfl⟩ := y
    refine ⟨Same.refl _, .int (lo + i), ?_, by unfold Rep; rfl⟩
    simp [hi']
  · show n ≤ i
    simpa using hi
end
section
variable {X : Cx} {xs : XS} {wx : WX} {pos : Pos} {tg : Expr}
/-- pyIter by values -/
def ItR (X : Cx) (tg : Expr) (r : V → Hp → (It → Hp → Prop) → Prop) : Prop := ∀ (pins : List (Addr × Obj)) (s : Shared) (sg : L2.St) (H : Hp) (x : V) (v : Value) (R : It → Hp → Prop), Inv X pins sg H s → RelV x v → r x H R →
  wpAny (model X.prog X.w) X.A (pyIter v) (PIE X pins sg tg R) X.xe s
theorem it_list : ItR X tg (fun x H R => ∃ a, x = .ref a ∧ (∃ xs, SqL X.K H a xs) ∧ R (Itl X.K a) H) := by
  intro pins s1 sg H1 x v R I1 r1 q1
  obtain ⟨a, e, ⟨xs, hq⟩, q⟩ := q1
  subst e
  cases r1
  obtain ⟨its, rv, p, hz⟩ := I1.list hq
  refine wpAny_pyIter_list p.isList ?_
  refine ⟨s1.heap.objs.size, [s1.heap.objs.size], _, _, H1, rfl, I1.kept (t' := s1.toks) fun b o e => Heap.get?_push_of_some _ e, turn_list a _, ⟨_, Heap.get?_push_size _ rfl, rfl, rfl⟩, fun b hb => ?_, q⟩
  have e : b = s1.heap.objs.size := by simpa using hb
  subst e
  exact I1.fpOk (Nat.le_refl _) (I1.hok.fresh (Nat.le_refl _))
theorem it_tup : ItR X tg (fun x H R => ∃ a, x = .ref a ∧ (∃ xs, SqT X.K H a xs) ∧ R (Itt X.K a) H) := by
  intro pins s1 sg H1 x v R I1 r1 q1
  obtain ⟨a, e, ⟨xs, hq⟩, q⟩ := q1
  subst e
  cases r1
  obtain ⟨its, rv, p, hz⟩ := I1.tuple hq
  refine wpAny_pyIter_tuple (show s1.heap.IsTuple a its.toArray from p) ?_
  refine ⟨s1.heap.objs.size, [s1.heap.objs.size], _, _, H1, rfl, I1.kept (t' := s1.toks) fun b o e => Heap.get?_push_of_some _ e, turn_tuple a _, ⟨_, Heap.get?_push_size _ rfl, rfl, rfl⟩, fun b hb => ?_, q⟩
  have e : b = s1.heap.objs.size := by simpa using hb
  subst e
  exact I1.fpOk (Nat.le_refl _) (I1.hok.fresh (Nat.le_refl _))
theorem it_str : ItR X tg (fun v H R => ∃ x, v = .str x ∧ R (Its x) H) := by
  intro pins s1 sg H1 y v R I1 r1 q1
  obtain ⟨x, ex, q⟩ := q1
  subst ex
  obtain ⟨t, rfl⟩ := r1
  cases ha : x.cps.all (· < 128)
  · exact wpAny_pyIter_wide ha (pi_one (tk := s1.toks) I1 _ (turn_str _ x t "str_iterator" (.inr rfl)) ⟨_, Heap.get?_push_size _ rfl, rfl, rfl⟩ q)
  · exact wpAny_pyIter_ascii ha (pi_one (tk := s1.toks) I1 _ (turn_str _ x t "str_ascii_iterator" (.inl rfl)) ⟨_, Heap.get?_push_size _ rfl, rfl, rfl⟩ q)
/-- items of a value, plain -/
theorem it_items : ItR X tg (fun x H R => ∃ G io st u us, Ok X.K G io st H ∧ Rep X.K (Wf G io) io H u x ∧ items u = some us ∧ ∀ J, Wk X.K G J io H us → R J H) := by
  intro pins s sg H x v R I r q
  obtain ⟨G, io, st, u, us, ok, rp, e, q⟩ := q
  cases u with
  | lst ws =>
    cases e
    unfold Rep at rp
    obtain ⟨a, vs, rfl, l, rs⟩ := rp
    exact it_list pins s sg H _ v R I r ⟨a, rfl, ⟨vs, l.sq⟩, q _ (wk_list l rs)⟩
  | tup ws =>
    cases e
    unfold Rep at rp
    obtain ⟨a, vs, rfl, l, rs⟩ := rp
    exact it_tup pins s sg H _ v R I r ⟨a, rfl, ⟨vs, l.sq⟩, q _ (wk_tup l rs)⟩
  | str z =>
    cases e
    unfold Rep at rp
    subst rp
    exact it_str pins s sg H _ v R I r ⟨z, rfl, q _ (wk_str z)⟩
  | scr ns =>
    cases e
    unfold Rep at rp
    obtain ⟨a, rfl, l⟩ := rp
    exact it_list pins s sg H _ v R I r ⟨a, rfl, ⟨_, l.sq⟩, q _ (wk_scr l)⟩
  | _ => cases e
theorem i_seq {e : Expr} {f : DE} (h : PE X e (tD X.K xs wx f)) : PI X tg e (tI X.K xs wx (itemsD f)) := by
  refine ⟨fun pins s sg H R I q => ?_⟩
  obtain ⟨G, io, st, env, ok, er, w⟩ := q
  refine thn (h.run pins s sg H (fun x H1 => ∃ G io st u us, Ok X.K G io st H1 ∧ Rep X.K (Wf G io) io H1 u x ∧ items u = some us ∧ ∀ J, Wk X.K G J io H1 us → R J H1) I ?_) fun v s1 ⟨x, H1, I1, r1, q1⟩ => it_items pins s1 sg H1 x v R I1 r1 q1
  refine ⟨G, io, st, env, ok, er, w.bind.impR fun st1 io1 H1 u ok1 e1 w1 v rv => ?_⟩
  obtain ⟨us, hu, w2⟩ := w1.pure
  exact ⟨G, io1, st1, u, us, ok1, rv, hu, fun J k => w2.here ok1 J k⟩
/-- range(n), range(a, b) -/
def rng1 : List U → Option (List U)
  | [.int j] => if -(2 ^ 62) ≤ j ∧ j < 2 ^ 62 then some ((List.range j.toNat).map fun i => U.int (i : Nat)) else none
  | _ => none
def itA (g : List U → Option (List U)) (f : DA) : DL := fun env st => (f env st).bind fun us st1 => Rs.of (g us) st1
theorem i_range1 {a : Expr} {f : DA} {p : Pos} (hg : Gl X "range") (hm : X.mg "range" = none) (ha : PA X [a] (tDA X.K xs wx f)) (hs : starEach [a] X.env = [(false, eval a X.env)] := by rfl) : PI X tg (.Call (.Name "range" p) [a] [] pos) (tI X.K xs wx (itA rng1 f)) :=
  pi_imp (pi_range1 hg hm ha hs) fun sg H R q => by
    obtain ⟨G, io, st, env, ok, er, w⟩ := q
    refine ⟨G, io, st, env, ok, er, w.bind.impR fun st1 io1 H1 us ok1 e1 w1 vs rvs => ?_⟩
    obtain ⟨ws, hu, w2⟩ := w1.pure
    unfold rng1 at hu
    split at hu
    · rename_i j
      split at hu
      · rename_i hj
        cases hu
        have e : vs = [V.int j] := Reps.ofInts (ns := [j]) rvs
        subst e
        refine ⟨j, rfl, hj.1, hj.2, w2.here ok1 _ ?_⟩
        have z := wk_range (K := X.K) (G := G) (io := io1) (H := H1) 0 j.toNat
        simpa using z
      · cases hu
    · cases hu
def forL (t : Tg) (b : DS) : List U → Env → Store → Out
  | [], env, st => .nx env st
  | u :: us, env, st => match t u with
    | none => .bad
    | some l => match b (setE env l) st with
      | .nx env2 st2 => forL t b us env2 st2
      | .ct env2 st2 => forL t b us env2 st2
      | .bk env2 st2 => .nx env2 st2
      | .rt u st2 => .rt u st2
      | .ex c us env2 st2 => .ex c us env2 st2
      | .bad => .bad
def sFor (f : DL) (t : Tg) (b : DS) : DS := fun env st => (f env st).out env fun us st1 => forL t b us env st1
theorem s_for {iter : Expr} {body : List Stmt} {f : DL} {t : Tg} {b : DS} (hp : PassesOwn (model X.prog X.w) X.A X.env X.xe) (hc : X.calm = true) (hi : PI X tg iter (tI X.K xs wx f)) (hg : PG X tg (gD X.K t)) (hb : PSs X body (tDS X.K xs wx b))
    (hs : ∀ x, foldedSetIterable iter X.env x = Pure.pure x := by intro _; rfl) : PS X (.For tg iter body [] pos) (tDS X.K xs wx (sFor f t b)) := ps_imp (ps_for hp hc hi hg hb hs) fun D sg H h => by
  obtain ⟨F, io, st, env, fr, w⟩ := h
  refine ⟨Gs F env sg, io, st, env, fr.ok, fr.er, (WantsS.expr fr w).impR fun st1 io1 H1 us ok1 ex1 z J wk => ?_⟩
  refine ⟨fun i m sg' H' => ∃ io' st' env', Fr X.K F io' st' env' sg' H' ∧ ExtO io1 H1 (Ow env sg) io' H' (Ow env' sg') ∧ WantsS X.K F io' H' (Ow env' sg') D xs wx (forL t b (us.drop i) env' st') ∧ i + m = us.length,
    ⟨us.length, io1, st1, env, z.1, ExtO.refl _ _ _, z.2, by omega⟩, fun i m sg' H' hW => ?_⟩
  obtain ⟨io', st', env', f', e', w', hm⟩ := hW
  have mn := e'.mono (F := F)
  by_cases hi : i < us.length
  · obtain ⟨hgo, hy⟩ := wk.go i _ io' st' H' f'.ok mn hi
    refine .inr ⟨hgo, fun sg2 H2 => ∃ io' st' env', Fr X.K F io' st' env' sg2 H2 ∧ ExtO io1 H1 (Ow env sg) io' H2 (Ow env' sg2) ∧ WantsS X.K F io' H2 (Ow env' sg2) D xs wx (forL t b (us.drop (i + 1)) env' st') ∧ (i + 1) + (m - 1) = us.length,
      fun sg2 H2 hN => ⟨m - 1, by omega, hN⟩, fun x H'' y => ?_⟩
    obtain ⟨sm, u, hu, ru⟩ := hy x H'' y
    have f2 : Fr X.K F io' st' env' sg' H'' := f'.ext (f'.ok.same sm) (Ext.same sm)
    have e2 : ExtO io1 H1 (Ow env sg) io' H'' (Ow env' sg') := e'.trans ((Ext.same sm).o _)
    have w2 := WantsS.later w' ((Ext.same sm).o (Ow env' sg'))
    rw [List.drop_eq_getElem_cons hi] at w2
    have hu' : us[i] = u := Option.some.inj ((List.getElem?_eq_getElem hi).symm.trans hu)
    rw [hu'] at w2
    unfold forL at w2
    cases ht : t u with
    | none => rw [ht] at w2; exact w2.elim
    | some l =>
      rw [ht] at w2
      simp only at w2
      refine ⟨Gs F env' sg', io', u, l, ru, ht, fun vs rvs => ?_⟩
      obtain ⟨f3, e3⟩ := f2.setAll l vs rvs
      refine ⟨F, io', st', _, f3, ?_⟩
      cases hbo : b (setE env' l) st' with
      | nx env2 st2 =>
        rw [hbo] at w2
        exact fun io4 sg4 H4 f4 e4 => ⟨io4, st2, env2, f4, (e2.trans e3).trans e4, WantsS.later w2 (e3.trans e4), by omega⟩
      | ct env2 st2 =>
        rw [hbo] at w2
        exact fun io4 sg4 H4 f4 e4 => ⟨io4, st2, env2, f4, (e2.trans e3).trans e4, WantsS.later w2 (e3.trans e4), by omega⟩
      | bk env2 st2 =>
        rw [hbo] at w2
        exact fun io4 sg4 H4 f4 e4 => w2 io4 sg4 H4 f4 (e3.trans e4)
      | rt u2 st2 =>
        rw [hbo] at w2
        exact fun io4 H4 v4 f4 e4 => w2 io4 H4 v4 f4 (e3.trans e4)
      | ex c us2 env2 st2 =>
        rw [hbo] at w2
        exact fun io4 sg4 H4 f4 e4 => w2 io4 sg4 H4 f4 (e3.trans e4)
      | bad => rw [hbo] at w2; exact w2.elim
  · refine .inl ⟨wk.stop i _ io' st' H' f'.ok mn (Nat.le_of_not_lt hi), ?_⟩
    rw [List.drop_eq_nil_of_le (Nat.le_of_not_lt hi)] at w'
    exact w' io' sg' H' f' (ExtO.refl _ _ _)
end
end D
namespace D
open PySem L2
def noEx {A : Type} : Rs A → Rs A
  | .ex _ _ _ => .bad
  | r => r
theorem noEx_bind {A B : Type} (r : Rs A) (k : A → Store → Rs B) : noEx (r.bind k) = (noEx r).bind fun a st => noEx (k a st) := by cases r <;> rfl
def hid (H : Hp) (D : Addr) : Hp := fun b => if b = D then none else H b
theorem hid_same {H : Hp} {D : Addr} : hid H D D = none := by unfold hid; rw [if_pos rfl]
theorem hid_ne {H : Hp} {D b : Addr} (h : b ≠ D) : hid H D b = H b := by unfold hid; rw [if_neg h]
theorem hid_some {H : Hp} {D b : Addr} {o : HO} (h : hid H D b = some o) : b ≠ D ∧ H b = some o := by
  by_cases e : b = D
  · subst e; rw [hid_same] at h; cases h
  · rw [hid_ne e] at h; exact ⟨e, h⟩
theorem upd_hid {H : Hp} {D : Addr} {o : HO} (h : H D = some o) : upd (hid H D) D o = H := by
  funext b
  by_cases e : b = D
  · subst e; rw [upd_same, h]
  · rw [upd_ne e, hid_ne e]
theorem hid_upd {H : Hp} {D : Addr} {o : HO} : hid (upd H D o) D = hid H D := by
  funext b
  by_cases e : b = D
  · subst e; rw [hid_same, hid_same]
  · rw [hid_ne e, hid_ne e, upd_ne e]
theorem hid_none {H : Hp} {D : Addr} (h : H D = none) : hid H D = H := by
  funext b
  by_cases e : b = D
  · subst e; rw [hid_same, h]
  · rw [hid_ne e]
section
variable {K : PySem.W.Frag} {G : Addr → Prop} {io io' : List Addr} {H H' : Hp} {D : Addr} {st : Store} {env : Env} {sg : L2.St}
def Gd (G : Addr → Prop) (D : Addr) : Addr → Prop := fun a => G a ∨ a = D
theorem mono_enter : Mono G io (hid H D) (Gd G D) io H := ⟨⟨[], by simp⟩, fun a o n h => by
  obtain ⟨ne, e⟩ := hid_some h
  exact ⟨e, fun z => z.elim (fun z => z.elim (fun z => n (.inl z)) ne) fun z => n (.inr z)⟩⟩
theorem mono_leave : Mono (Gd G D) io H G io (hid H D) := ⟨⟨[], by simp⟩, fun a o n h => by
  have ne : a ≠ D := fun e => n (.inl (.inr e))
  exact ⟨by rw [hid_ne ne]; exact h, fun z => n (z.imp .inl id)⟩⟩
theorem ObRep.mono {G' : Addr → Prop} {a : Addr} {ob : Ob} (m : Mono G io H G' io' H') (keep : ∀ o, H a = some o → H' a = some o) (kx : ∀ dd ws, H dd = some (.xd ws) → H' dd = some (.xd ws)) (h : ObRep K (Wf G io) io H a ob) : ObRep K (Wf G' io') io' H' a ob := by
  cases ob with
  | lst us => obtain ⟨vs, q1, q2⟩ := h; exact ⟨vs, keep _ q1, q2.mono m⟩
  | dct ks us => obtain ⟨kvs, q1, q2, q3⟩ := h; exact ⟨kvs, keep _ q1, q2, q3.mono m⟩
  | dcT ks us => obtain ⟨kvs, q1, q2, q3⟩ := h; exact ⟨kvs, keep _ q1, q2, q3.mono m⟩
  | obj c fs => obtain ⟨C, dx, vs, q1, q2, q3⟩ := h; exact ⟨C, dx, vs, q1, keep _ q2, q3.mono m⟩
  | ins c fs => obtain ⟨C, d, q1, q2, q3⟩ := h; exact ⟨C, d, q1, keep _ q2, q3.keep kx⟩
  | gone => trivial
theorem Ok.enter {o : HO} (h : Ok K G io st (hid H D)) (hD : H D = some o) (hx : NX o) : Ok K (Gd G D) io st H := by
  refine ⟨h.nd, fun a ha z => ?_, fun a ha => ?_, h.len, fun n ob a e1 e2 => ?_⟩
  · rcases z with z | z
    · exact h.dj a ha z
    · subst z
      obtain ⟨o, e, _⟩ := h.trk a (.inr ha)
      exact (hid_some e).1 rfl
  · rcases ha with (z | z) | z
    · obtain ⟨o, e, x⟩ := h.trk a (.inl z); exact ⟨o, (hid_some e).2, x⟩
    · subst z; exact ⟨o, hD, hx⟩
    · obtain ⟨o, e, x⟩ := h.trk a (.inr z); exact ⟨o, (hid_some e).2, x⟩
  · exact (h.obs n ob a e1 e2).mono mono_enter (fun o q => (hid_some q).2) fun _ _ q => (hid_some q).2
theorem Ok.leave (h : Ok K (Gd G D) io st H) (hG : ¬ G D) : Ok K G io st (hid H D) := by
  have nD : D ∉ io := fun z => h.dj D z (.inr rfl)
  refine ⟨h.nd, fun a ha z => h.dj a ha (.inl z), fun a ha => ?_, h.len, fun n ob a e1 e2 => ?_⟩
  · obtain ⟨o, e, x⟩ := h.trk a (ha.imp .inl id)
    have ne : a ≠ D := fun z => by
      subst z
      exact ha.elim hG nD
    exact ⟨o, by rw [hid_ne ne]; exact e, x⟩
  · have ne : a ≠ D := fun z => by
      subst z
      exact nD (List.mem_of_getElem? e2)
    exact (h.obs n ob a e1 e2).mono mono_leave (fun o q => by rw [hid_ne ne]; exact q) fun dd ws q => by
      have nd : dd ≠ D := fun z => by
        subst z
        obtain ⟨o, e, x⟩ := h.trk dd (.inl (.inr rfl))
        rw [q] at e; cases e; exact x ws rfl
      rw [hid_ne nd]; exact q
theorem EnvRep.enter (h : EnvRep K G io (hid H D) env sg) : EnvRep K (Gd G D) io H env sg := ⟨h.len, fun i s o e1 e2 => by
  have q := h.sl i s o e1 e2
  cases s with
  | un => trivial
  | val u => obtain ⟨v, q1, q2⟩ := q; exact ⟨v, q1, q2.mono mono_enter⟩
  | own us => obtain ⟨a, vs, q1, q2, q3, q4⟩ := q; exact ⟨a, vs, q1, .inl q2, (hid_some q3).2, q4.mono mono_enter⟩⟩
theorem Ext.leave (e : Ext io H io' H') : Ext io (hid H D) io' (hid H' D) := by
  obtain ⟨m, q, f⟩ := e.pre
  refine ⟨⟨m, q, fun a ha => ?_⟩, fun a o ha h => ?_, fun a o h => ?_⟩
  · by_cases z : a = D
    · subst z; exact hid_same
    · rw [hid_ne z]; exact f a ha
  · obtain ⟨ne, h⟩ := hid_some h
    rw [hid_ne ne]; exact e.keep a o ha h
  · obtain ⟨ne, h⟩ := hid_some h
    obtain ⟨o', h'⟩ := e.stay a o h
    exact ⟨o', by rw [hid_ne ne]; exact h'⟩
end
theorem wipe_set_mem {i : Nat} {o : Option V} : ∀ (vs : List Nat) (sg : L2.St), i ∈ vs → L2.wipe (sg.set i o) vs = L2.wipe sg vs
  | [], _, h => by simp at h
  | v :: vs, sg, h => by
    unfold L2.wipe
    by_cases hm : i ∈ vs
    · rw [wipe_set_mem vs sg hm]
    · have e : v = i := by
        rcases List.mem_cons.mp h with e | e
        · exact e.symm
        · exact (hm e).elim
      subst e
      have c : ∀ (ws : List Nat) (s : L2.St), v ∉ ws → L2.wipe (s.set v o) ws = (L2.wipe s ws).set v o := by
        intro ws
        induction ws with
        | nil => intro s _; rfl
        | cons x ws ih =>
          intro s hx
          unfold L2.wipe
          rw [ih s fun z => hx (List.mem_cons_of_mem _ z), List.set_comm _ _ fun z => hx (by rw [z]; exact List.mem_cons_self)]
      rw [c vs sg hm, List.set_set]
theorem wipe_wipe (sg : L2.St) (vs : List Nat) : L2.wipe (L2.wipe sg vs) vs = L2.wipe sg vs := by
  have c : ∀ (ws : List Nat), (∀ x ∈ ws, x ∈ vs) → L2.wipe (L2.wipe sg ws) vs = L2.wipe sg vs := by
    intro ws
    induction ws with
    | nil => intro _; rfl
    | cons x ws ih =>
      intro hx
      show L2.wipe ((L2.wipe sg ws).set x none) vs = _
      rw [wipe_set_mem vs _ (hx x List.mem_cons_self), ih fun y hy => hx y (List.mem_cons_of_mem _ hy)]
  exact c vs fun _ h => h
theorem wipe_setS : ∀ (l : List (Nat × V)) (vs : List Nat) (sg : L2.St), (∀ p ∈ l, p.1 ∈ vs) → L2.wipe (setS sg l) vs = L2.wipe sg vs
  | [], _, _, _ => rfl
  | p :: l, vs, sg, h => by
    show L2.wipe (setS (sg.set p.1 (some p.2)) l) vs = _
    rw [wipe_setS l vs _ fun q hq => h q (List.mem_cons_of_mem _ hq), wipe_set_mem vs sg (h p List.mem_cons_self)]
def compL (t : Tg) (c : DT) (e : DE) : List U → Env → Store → Rs (List U)
  | [], _, st => .ok [] st
  | u :: us, env, st => match t u with
    | none => .bad
    | some l => (c (setE env l) st).bind fun b st1 => if b = true then (e (setE env l) st1).bind fun v st2 => (compL t c e us env st2).bind fun r st3 => .ok (v :: r) st3 else compL t c e us env st1
def compD (f : DL) (vs : List Nat) (t : Tg) (c : DT) (e : DE) : DL := fun env st => (f env st).bind fun us st1 => if us.length ≤ sizeLine then noEx (compL t c e us (wipeE env vs) st1) else .bad
def yesT : DT := fun _ st => .ok true st
abbrev wF : WX := fun _ _ _ _ => False
section
variable {X : Cx} {xs : XS} {wx : WX} {pos : Pos} {tg : Expr}
theorem ts_nil : PTs X [] (tDT X.K xs wx yesT) := ⟨fun pins s sg H Q I h => pts_nil.run pins s sg H Q I (by
  obtain ⟨G, io, st, env, ok, er, w⟩ := h
  exact w.here ok)⟩
theorem comp_read {f : DL} {vs : List Nat} {t : Tg} {c : DT} {e : DE} {sg : L2.St} {H : Hp} {Q : VK} (hvs : ∀ u l, t u = some l → ∀ p ∈ l, p.1 ∈ vs) (h : tDL X.K xs wx (compD f vs t c e) sg H Q) :
    tLc (tI X.K xs wx f) (gD X.K t) (tDT X.K xs wF c) (tD X.K xs wF e) vs sg H Q := by
  obtain ⟨G, io, st, env, ok, er, w⟩ := h
  refine ⟨G, io, st, env, ok, er, w.bind.impR fun st1 io1 H1 us ok1 e1 w1 J wk D hD => ?_⟩
  split at w1
  case isFalse => exact w1.elim
  rename_i hz
  have nG : ¬ Wf G io1 D := ok1.fresh hD
  have er1 : EnvRep X.K G io1 H1 (wipeE env vs) (L2.wipe sg vs) := (er.ext ok.dj e1).wipe vs
  have hH : hid (upd H1 D (.lst [])) D = H1 := by rw [hid_upd, hid_none hD]
  refine ⟨fun i m H' => ∃ io' st' acc accv, Ok X.K G io' st' (hid H' D) ∧ Ext io1 H1 io' (hid H' D) ∧ H' D = some (.lst accv) ∧ Reps X.K (Wf G io') io' (hid H' D) acc accv ∧ acc.length ≤ i ∧ i + m = us.length ∧
      Wants X.K G io' (hid H' D) (fun _ io'' H'' ws => ∀ vs a, Reps X.K (Wf G io'') io'' H'' (acc ++ ws) vs → H'' a = none → Q (.ref a) (upd H'' a (.lst vs))) (XW xs wx sg) (noEx (compL t c e (us.drop i) (wipeE env vs) st')),
    ⟨us.length, io1, st1, [], [], by rw [hH]; exact ok1, by rw [hH]; exact Ext.refl _ _, upd_same, .nil, by simp, by omega, ?_⟩, fun i m H' hW => ?_⟩
  · rw [hH]
    exact w1.impR fun st' io' H' ws _ _ q => q
  obtain ⟨io', st', acc, accv, ok', ex', hD', ra, hai, hm, w'⟩ := hW
  have nio : D ∉ io' := fun z => by
    obtain ⟨o, q, _⟩ := ok'.trk D (.inr z)
    exact (hid_some q).1 rfl
  have okE : Ok X.K (Gd G D) io' st' H' := ok'.enter hD' nx_lst
  have mE : Mono G io1 H1 (Gd G D) io' H' := ex'.mono.trans mono_enter
  have erE : EnvRep X.K (Gd G D) io' H' (wipeE env vs) (L2.wipe sg vs) := (er1.ext ok1.dj ex').enter
  by_cases hi : i < us.length
  · obtain ⟨hgo, hy⟩ := wk.go i _ io' st' H' okE mE hi
    refine .inr ⟨hgo, _, fun H2 hN => ⟨m - 1, by omega, hN⟩, fun x H'' y => ?_⟩
    obtain ⟨sm, u, hu, ru⟩ := hy x H'' y
    have ok2 := okE.same sm
    have ex2 : Ext io' H' io' H'' := Ext.same sm
    have er2 : EnvRep X.K (Gd G D) io' H'' (wipeE env vs) (L2.wipe sg vs) := erE.ext okE.dj ex2
    rw [List.drop_eq_getElem_cons hi] at w'
    have hu' : us[i] = u := Option.some.inj ((List.getElem?_eq_getElem hi).symm.trans hu)
    rw [hu'] at w'
    unfold compL at w'
    cases ht : t u with
    | none => rw [ht] at w'; exact w'.elim
    | some l =>
      rw [ht] at w'
      simp only at w'
      refine ⟨Gd G D, io', u, l, ru, ht, fun lvs rvs => ⟨?_, ?_⟩⟩
      · rw [wipe_setS _ _ _ fun p hp => ?_, wipe_wipe]
        have hp1 : p.1 ∈ l.map (·.1) := (List.of_mem_zip hp).1
        obtain ⟨q, hq, e⟩ := List.mem_map.mp hp1
        rw [← e]
        exact hvs u l ht q hq
      have er3 := EnvRep.setAll l lvs er2 rvs
      have w2 := w'.later (Ext.leave (D := D) ex2)
      rw [noEx_bind] at w2
      -- the test
      have lift : ∀ {A : Type} {R : Store → List Addr → Hp → A → Prop} {XR} {r : Rs A} {io' : List Addr} {H' : Hp}, Wants X.K G io' (hid H' D) R XR (noEx r) → Wants X.K (Gd G D) io' H' (fun st2 io2 H2 a => Ok X.K G io2 st2 (hid H2 D) ∧ Ext io' (hid H' D) io2 (hid H2 D) ∧ R st2 io2 (hid H2 D) a) (XW xs wF (setS (L2.wipe sg vs) ((l.map (·.1)).zip lvs))) r := by
        intro A R XR r io' H' h
        cases r with
        | ok a st2 => exact fun io2 H2 o2 e2 => ⟨o2.leave fun z => nG (.inl z), e2.leave, h io2 _ (o2.leave fun z => nG (.inl z)) e2.leave⟩
        | ex _ _ _ => exact h.elim
        | bad => exact h
      have d2 : H'' D = some (.lst accv) := sm _ _ hD'
      refine ⟨Gd G D, io', st', _, ok2, er3, (lift w2.bind).impR fun st3 io3 H3 b ok3 e3 q => ?_⟩
      have d3 : H3 D = some (.lst accv) := e3.keep D _ nio d2
      have nio3 : D ∉ io3 := fun z => ok3.dj D z (.inr rfl)
      have exA : Ext io1 H1 io3 (hid H3 D) := (ex'.trans (Ext.leave (D := D) ex2)).trans q.2.1
      obtain ⟨q1, q2, q3⟩ := q
      cases b with
      | false => exact ⟨io3, st3, acc, accv, q1, exA, d3, (ra.ext (Ext.leave (D := D) ex2)).ext q2, by omega, by omega, q3⟩
      | true =>
        simp only [if_true] at q3
        rw [noEx_bind] at q3
        refine ⟨Gd G D, io3, st3, _, ok3, er3.ext ok2.dj e3, (lift q3.bind).impR fun st4 io4 H4 v ok4 e4 q4 y ry => ?_⟩
        obtain ⟨p1, p2, p3⟩ := q4
        have d4 : H4 D = some (.lst accv) := e4.keep D _ nio3 d3
        have rA := ((ra.ext (Ext.leave (D := D) ex2)).ext q2).ext p2
        refine ⟨accv, d4, ?_, io4, st4, acc ++ [v], accv ++ [y], ?_, ?_, upd_same, ?_, by simp; omega, by omega, ?_⟩
        · rw [← ra.length]; omega
        · rw [hid_upd]; exact p1
        · rw [hid_upd]; exact exA.trans p2
        · rw [hid_upd]; exact rA.append (.cons (ry.mono mono_leave) .nil)
        · rw [hid_upd]
          rw [noEx_bind] at p3
          refine p3.bind.impR fun st5 io5 H5 ws ok5 e5 q5 => ?_
          have q6 := Wants.here (a := v :: ws) q5 ok5
          intro vs' a' r' n'
          exact q6 vs' a' (by rw [List.append_assoc] at r'; exact r') n'
  · refine .inl ⟨wk.stop i _ io' st' H' okE mE (Nat.le_of_not_lt hi), ?_⟩
    rw [List.drop_eq_nil_of_le (Nat.le_of_not_lt hi)] at w'
    have q := Wants.here (a := ([] : List U)) w' ok' accv D (by rw [List.append_nil]; exact ra) hid_same
    rw [upd_hid hD'] at q
    exact q
theorem l_comp {elt iter : Expr} {ifs : List Expr} {scope : Scope} {own : List (Str × Nat)} {f : DL} {t : Tg} {c : DT} {e : DE} (hc : X.calm = true) (hN : X.N.Nodup) (hi : PI X tg iter (tI X.K xs wx f)) (ok : BlkOk X.N X.env.scope scope own)
    (hvs : ∀ u l, t u = some l → ∀ p ∈ l, p.1 ∈ own.map (·.2))
    (hg : ∀ (s : Shared) (H : Hp) (C : Addr) (cl : List (Str × Addr)) (fp : List Addr), PG (X.blk s H scope (compEnvC scope cl C X.env) fp) tg (gD X.K t)) (ht : ∀ (s : Shared) (H : Hp) (C : Addr) (cl : List (Str × Addr)) (fp : List Addr), PTs (X.blk s H scope (compEnvC scope cl C X.env) fp) ifs (tDT X.K xs wF c))
    (he : ∀ (s : Shared) (H : Hp) (C : Addr) (cl : List (Str × Addr)) (fp : List Addr), PE (X.blk s H scope (compEnvC scope cl C X.env) fp) elt (tD X.K xs wF e)) (hs : ∀ x, foldedSetIterable iter X.env x = Pure.pure x := by intro _; rfl) :
    PE X (.ListComp elt [⟨tg, iter, ifs, 0⟩] scope pos) (tDL X.K xs wx (compD f (own.map (·.2)) t c e)) := pe_imp (pe_lc hc hN hi ok hg ht he hs) fun sg H Q h => comp_read hvs h
end
end D
namespace D
open PySem L2
def fin : Out → Rs U
  | .rt u st => .ok u st
  | .nx _ st => .ok .non st
  | .ex c us _ st => .ex c us st
  | _ => .bad
def env0 (m : Nat) (us : List U) : Env := us.map Sl.val ++ List.replicate (m - us.length) .un
def runB (m n : Nat) (body : DS) : List U → Store → Rs U := fun us st => if us.length = n then fin (body (env0 m us) st) else .bad
theorem runB_bad {m n : Nat} {body : DS} (us : List U) (st : Store) (h : us.length ≠ n) : runB m n body us st = .bad := by unfold runB; rw [if_neg h]
theorem env0_no {m : Nat} {us : List U} {i : Nat} {ws : List U} : (env0 m us)[i]? ≠ some (.own ws) := fun h => by
  unfold env0 at h
  rcases List.mem_append.mp (List.mem_of_getElem? h) with h | h
  · obtain ⟨_, _, e⟩ := List.mem_map.mp h; cases e
  · have := List.eq_of_mem_replicate h; cases this
theorem start_rep {K : PySem.W.Frag} {G : Addr → Prop} {io : List Addr} {H : Hp} {N : List Str} {us : List U} {vs : List V} (r : Reps K (Wf G io) io H us vs) (m : Nat) : EnvRep K G io H (env0 m us) (vs.map some ++ List.replicate (m - vs.length) none) := by
  have hl := r.length
  refine ⟨by unfold env0; simp [hl], fun i s o h1 h2 => ?_⟩
  unfold env0 at h1
  by_cases hi : i < us.length
  · rw [List.getElem?_append_left (by simpa using hi)] at h1
    rw [List.getElem?_append_left (by simpa [← hl] using hi)] at h2
    rw [List.getElem?_map, List.getElem?_eq_getElem hi] at h1
    obtain ⟨v, hv, rv⟩ := r.get (List.getElem?_eq_getElem hi)
    rw [List.getElem?_map, hv] at h2
    cases h1; cases h2
    exact ⟨v, rfl, rv⟩
  · rw [List.getElem?_append_right (by simpa using Nat.le_of_not_lt hi)] at h1
    have e := List.eq_of_mem_replicate (List.mem_of_getElem? h1)
    subst e
    trivial
section
variable {P : Program} {w : World} {K : PySem.W.Frag} {mg : Str → Option Value} {base : Heap} {xs : XS}
theorem fn_d {x qual : Str} {s : Stmt} {f : Addr} {fd : FuncData} {N ps : List Str} {k : Nat} {body : DS} (F : Fun K x qual s f fd) (S : FnScope N ps (defScope s))
    (hb : ∀ (cdv : Value) (A : Around) (outer : List PySem.Env) (sh : Shared) (H : Hp) (E : XK), Room k (A.deeper (PyProof.Rows.envOfC qual (defScope s) sh.heap.objs.size f cdv)) →
      PSs (cxOf (L2.CX P w) P w K mg base N qual (defScope s) f cdv A outer sh H E) (defBody s) (tDS K xs (fun cls d _ H => E cls d H) body)) :
    FnOk P w K mg base (L2.CX P w) (k + 1) f fd ps (spD K xs ps.length (runB N.length ps.length body)) := by
  refine F.okX S (fun vs H Q E h => h.1) (fun cdv A outer sh H vs Q E hr h => ⟨_, hb cdv A outer sh H E hr, ?_⟩)
  obtain ⟨hl, G, io, st, us, ok, r, w⟩ := h
  have no : ∀ a, ¬ Ow (env0 N.length us) (start N vs) a := fun a ⟨i, ws, h1, _⟩ => env0_no h1
  have sub : ∀ a, Gs G (env0 N.length us) (start N vs) a → G a := fun a h => h.elim id fun z => (no a z).elim
  have m : Mono G io H (Gs G (env0 N.length us) (start N vs)) io H := ⟨⟨[], by simp⟩, fun a o n h => ⟨h, fun z => n (z.imp (sub a) id)⟩⟩
  refine ⟨G, io, st, env0 N.length us, ⟨ok.mono sub, start_rep (N := N) (r.mono m) N.length, fun a h => (no a h).elim, fun i j a us us' h1 _ _ _ => (env0_no h1).elim⟩, ?_⟩
  unfold runB at w
  rw [if_pos (show us.length = ps.length by rw [r.length]; exact hl)] at w
  have toE : ∀ {io' H' O'}, ExtO io H (Ow (env0 N.length us) (start N vs)) io' H' O' → Ext io H io' H' := fun e => ⟨let ⟨m, q1, q2⟩ := e.pre; ⟨m, q1, fun a h => (q2 a h).elim id fun z => (no a z).elim⟩, fun a o h q => e.keep a o h (no a) q, e.stay⟩
  cases q : body (env0 N.length us) st with
  | nx env' st' => rw [q] at w; exact fun io' sg' H' f' e' => w io' H' (f'.ok.mono fun _ => .inl) (toE e') .non (by unfold Rep; rfl)
  | rt u st' => rw [q] at w; exact fun io' H' v o' e' rv => w io' H' o' (toE e') v rv
  | ex c us env' st' => rw [q] at w; exact fun io' sg' H' f' e' cls d hx => w io' H' (f'.ok.mono fun _ => .inl) (toE e') cls d hx
  | bk _ _ => rw [q] at w; exact w.elim
  | ct _ _ => rw [q] at w; exact w.elim
  | bad => rw [q] at w; exact w.elim
end
def add2 : U → U → Option U
  | .int i, .int j => some (.int (i + j))
  | .str x, .str y => if x.length + y.length ≤ sizeLine then some (.str (x ++ y)) else none
  | .tup x, .tup y => if x.length + y.length ≤ sizeLine then some (.tup (x ++ y)) else none
  | .lst x, .lst y => if x.length + y.length ≤ sizeLine then some (.lst (x ++ y)) else none
  | _, _ => none
def sub2 : U → U → Option U
  | .int i, .int j => some (.int (i - j))
  | _, _ => none
def smallI (i : Int) : Bool := decide (-(2 ^ 64) < i ∧ i < 2 ^ 64)
def mul2 : U → U → Option U
  | .int i, .int j => if smallI i || smallI j then some (.int (i * j)) else none
  | .lst x, .int k => if -(2 ^ 63) ≤ k ∧ k < 2 ^ 63 ∧ x.length * k.toNat ≤ sizeLine then some (.lst (List.replicate k.toNat x).flatten) else none
  | _, _ => none
def mod2 : U → U → Option U
  | .int i, .int j => if 0 < j then some (.int (i % j)) else none
  | _, _ => none
def fdiv2 : U → U → Option U
  | .int i, .int j => if 0 < j ∧ j < 1073741824 then some (.int (i / j)) else none
  | _, _ => none
def pow2 : U → U → Option U
  | .int i, .int j => if 0 ≤ j ∧ j ≤ 1000000 ∧ i.natAbs < 2 ^ 64 then some (.int (i ^ j.toNat)) else none
  | _, _ => none
def neg1 : U → Option U
  | .int i => some (.int (-i))
  | _ => none
def ltC (x y : Str) : Bool := decide (x.cps.toList < y.cps.toList)
def lt2 : U → U → Option U
  | .int i, .int j => some (.bl (decide (i < j)))
  | .str x, .str y => some (.bl (ltC x y))
  | _, _ => none
def le2 : U → U → Option U
  | .int i, .int j => some (.bl (decide (i ≤ j)))
  | .str x, .str y => some (.bl (!ltC y x))
  | _, _ => none
def gt2 : U → U → Option U
  | .int i, .int j => some (.bl (decide (j < i)))
  | .str x, .str y => some (.bl (ltC y x))
  | _, _ => none
def ge2 : U → U → Option U
  | .int i, .int j => some (.bl (decide (j ≤ i)))
  | .str x, .str y => some (.bl (!ltC x y))
  | _, _ => none
section
variable {K : PySem.W.Frag} {W : Addr → Prop} {io : List Addr} {H : Hp}
theorem Rep.int' {i : Int} {v : V} (h : Rep K W io H (.int i) v) : v = .int i := by unfold Rep at h; exact h
theorem Rep.str' {i : Str} {v : V} (h : Rep K W io H (.str i) v) : v = .str i := by unfold Rep at h; exact h
theorem Rep.bl' {i : Bool} {v : V} (h : Rep K W io H (.bl i) v) : v = .bl i := by unfold Rep at h; exact h
theorem Rep.non' {v : V} (h : Rep K W io H .non v) : v = .non := by unfold Rep at h; exact h
theorem Rep.tup' {us : List U} {v : V} (h : Rep K W io H (.tup us) v) : ∃ a vs, v = .ref a ∧ LT K W H a vs ∧ Reps K W io H us vs := by unfold Rep at h; exact h
theorem Rep.lst' {us : List U} {v : V} (h : Rep K W io H (.lst us) v) : ∃ a vs, v = .ref a ∧ LL K W H a vs ∧ Reps K W io H us vs := by unfold Rep at h; exact h
theorem rInt (i : Int) : Rep K W io H (.int i) (.int i) := by unfold Rep; rfl
theorem rStr (i : Str) : Rep K W io H (.str i) (.str i) := by unfold Rep; rfl
theorem rBl (i : Bool) : Rep K W io H (.bl i) (.bl i) := by unfold Rep; rfl
theorem rTup {us : List U} {a : Addr} {vs : List V} (l : LT K W H a vs) (r : Reps K W io H us vs) : Rep K W io H (.tup us) (.ref a) := by unfold Rep; exact ⟨a, vs, rfl, l, r⟩
end
theorem Reps.rep {K : PySem.W.Frag} {W : Addr → Prop} {io : List Addr} {H : Hp} {us : List U} {vs : List V} (h : Reps K W io H us vs) : ∀ k : Nat, Reps K W io H (List.replicate k us).flatten (List.replicate k vs).flatten
  | 0 => .nil
  | k + 1 => by
    rw [List.replicate_succ, List.replicate_succ, List.flatten_cons, List.flatten_cons]
    exact h.append (Reps.rep h k)
section
variable {X : Cx}
theorem o_add : OpR X (binaryOp .Add) (P2 X.K add2) := by
  intro pins s sg H x y v u Q I rx ry h
  obtain ⟨G, io, st, u1, u2, u3, ok, r1, r2, e, q⟩ := h
  unfold add2 at e
  split at e
  · cases e; have e1 := r1.int'; have e2 := r2.int'; subst e1; subst e2
    exact op_add pins s sg H _ _ v u Q I rx ry ⟨_, _, rfl, rfl, q _ H (Same.refl H) (rInt _)⟩
  · split at e
    · rename_i hz
      cases e; have e1 := r1.str'; have e2 := r2.str'; subst e1; subst e2
      exact op_add_str pins s sg H _ _ v u Q I rx ry ⟨_, _, rfl, rfl, hz, q _ H (Same.refl H) (rStr _)⟩
    · cases e
  · split at e
    · rename_i hz
      cases e
      obtain ⟨a, vs, rfl, l1, s1⟩ := r1.tup'
      obtain ⟨b, ws, rfl, l2, s2⟩ := r2.tup'
      refine op_catA pins s sg H _ _ v u Q I rx ry ⟨a, b, vs, ws, rfl, rfl, l1.sq, l2.sq, by rw [← s1.length, ← s2.length]; exact hz, fun e => ?_, fun n e => ?_, fun n1 n2 p hp => ?_⟩
      · subst e
        have e0 : _ = [] := List.eq_nil_of_length_eq_zero (by rw [s1.length]; rfl)
        subst e0
        exact q _ H (Same.refl H) (rTup l2 s2)
      · subst e
        have e0 : _ = [] := List.eq_nil_of_length_eq_zero (by rw [s2.length]; rfl)
        subst e0
        exact q _ H (Same.refl H) (by rw [List.append_nil]; exact rTup l1 s1)
      · exact q _ _ (same_upd hp) (ok.newT hp (s1.append s2))
    · cases e
  · split at e
    · rename_i hz
      cases e
      obtain ⟨a, vs, rfl, l1, s1⟩ := r1.lst'
      obtain ⟨b, ws, rfl, l2, s2⟩ := r2.lst'
      exact op_cat pins s sg H _ _ v u Q I rx ry ⟨a, b, vs, ws, rfl, rfl, l1.1, l2.1, by rw [← s1.length, ← s2.length]; exact hz, fun p hp => q _ _ (same_upd hp) (ok.newL hp (s1.append s2))⟩
    · cases e
  · cases e
theorem o_sub : OpR X (binaryOp .Sub) (P2 X.K sub2) := by
  intro pins s sg H x y v u Q I rx ry h
  obtain ⟨G, io, st, u1, u2, u3, ok, r1, r2, e, q⟩ := h
  unfold sub2 at e
  split at e
  · cases e; have e1 := r1.int'; have e2 := r2.int'; subst e1; subst e2
    exact op_sub pins s sg H _ _ v u Q I rx ry ⟨_, _, rfl, rfl, q _ H (Same.refl H) (rInt _)⟩
  · cases e
theorem o_mul : OpR X (binaryOp .Mult) (P2 X.K mul2) := by
  intro pins s sg H x y v u Q I rx ry h
  obtain ⟨G, io, st, u1, u2, u3, ok, r1, r2, e, q⟩ := h
  unfold mul2 at e
  split at e
  · split at e
    · rename_i hs
      cases e; have e1 := r1.int'; have e2 := r2.int'; subst e1; subst e2
      refine op_mul pins s sg H _ _ v u Q I rx ry ⟨_, _, rfl, rfl, ?_, q _ H (Same.refl H) (rInt _)⟩
      rw [Bool.or_eq_true] at hs
      exact hs.imp of_decide_eq_true of_decide_eq_true
    · cases e
  · split at e
    · rename_i hz
      cases e
      obtain ⟨a, vs, rfl, l1, s1⟩ := r1.lst'
      have e2 := r2.int'; subst e2
      exact op_rep pins s sg H _ _ v u Q I rx ry ⟨a, _, vs, rfl, rfl, l1.1, hz.1, hz.2.1, by rw [← s1.length]; exact hz.2.2, fun p hp => q _ _ (same_upd hp) (ok.newL hp (s1.rep _))⟩
    · cases e
  · cases e
theorem o_mod : OpR X (binaryOp .Mod) (P2 X.K mod2) := by
  intro pins s sg H x y v u Q I rx ry h
  obtain ⟨G, io, st, u1, u2, u3, ok, r1, r2, e, q⟩ := h
  unfold mod2 at e
  split at e
  · split at e
    · rename_i hs
      cases e; have e1 := r1.int'; have e2 := r2.int'; subst e1; subst e2
      exact op_mod pins s sg H _ _ v u Q I rx ry ⟨_, _, rfl, rfl, hs, q _ H (Same.refl H) (rInt _)⟩
    · cases e
  · cases e
theorem o_fdiv : OpR X (binaryOp .FloorDiv) (P2 X.K fdiv2) := by
  intro pins s sg H x y v u Q I rx ry h
  obtain ⟨G, io, st, u1, u2, u3, ok, r1, r2, e, q⟩ := h
  unfold fdiv2 at e
  split at e
  · split at e
    · rename_i hs
      cases e; have e1 := r1.int'; have e2 := r2.int'; subst e1; subst e2
      exact op_fdiv pins s sg H _ _ v u Q I rx ry ⟨_, _, rfl, rfl, hs, q _ H (Same.refl H) (rInt _)⟩
    · cases e
  · cases e
theorem o_pow : OpR X (binaryOp .Pow) (P2 X.K pow2) := by
  intro pins s sg H x y v u Q I rx ry h
  obtain ⟨G, io, st, u1, u2, u3, ok, r1, r2, e, q⟩ := h
  unfold pow2 at e
  split at e
  · split at e
    · rename_i hs
      cases e; have e1 := r1.int'; have e2 := r2.int'; subst e1; subst e2
      exact op_pow pins s sg H _ _ v u Q I rx ry ⟨_, _, rfl, rfl, hs, q _ H (Same.refl H) (rInt _)⟩
    · cases e
  · cases e
theorem o_gt : OpR X (compareOp .Gt) (P2 X.K gt2) := by
  intro pins s sg H x y v u Q I rx ry h
  obtain ⟨G, io, st, u1, u2, u3, ok, r1, r2, e, q⟩ := h
  unfold gt2 at e
  split at e
  · cases e; have e1 := r1.int'; have e2 := r2.int'; subst e1; subst e2
    exact op_gt pins s sg H _ _ v u Q I rx ry ⟨_, _, rfl, rfl, q _ H (Same.refl H) (rBl _)⟩
  · cases e; have e1 := r1.str'; have e2 := r2.str'; subst e1; subst e2
    exact op_gt_str pins s sg H _ _ v u Q I rx ry ⟨_, _, rfl, rfl, q _ H (Same.refl H) (rBl _)⟩
  · cases e
theorem o_ge : OpR X (compareOp .GtE) (P2 X.K ge2) := by
  intro pins s sg H x y v u Q I rx ry h
  obtain ⟨G, io, st, u1, u2, u3, ok, r1, r2, e, q⟩ := h
  unfold ge2 at e
  split at e
  · cases e; have e1 := r1.int'; have e2 := r2.int'; subst e1; subst e2
    exact op_ge pins s sg H _ _ v u Q I rx ry ⟨_, _, rfl, rfl, q _ H (Same.refl H) (rBl _)⟩
  · cases e; have e1 := r1.str'; have e2 := r2.str'; subst e1; subst e2
    exact op_ge_str pins s sg H _ _ v u Q I rx ry ⟨_, _, rfl, rfl, q _ H (Same.refl H) (rBl _)⟩
  · cases e
end
end D
namespace D
open PySem L2
/-- == of two things that are not both tuples or both lists -/
def eqP : U → U → Option Bool
  | .non, .non => some true
  | .non, .bl _ => some false
  | .non, .int _ => some false
  | .non, .str _ => some false
  | .non, .tup _ => some false
  | .non, .lst _ => some false
  | .bl _, .non => some false
  | .bl a1, .bl a2 => some (a1 == a2)
  | .bl a1, .int a2 => some ((if a1 then 1 else 0) == a2)
  | .bl _, .str _ => some false
  | .bl _, .tup _ => some false
  | .bl _, .lst _ => some false
  | .int _, .non => some false
  | .int a1, .bl a2 => some (a1 == (if a2 then 1 else 0))
  | .int a1, .int a2 => some (a1 == a2)
  | .int _, .str _ => some false
  | .int _, .tup _ => some false
  | .int _, .lst _ => some false
  | .str _, .non => some false
  | .str _, .bl _ => some false
  | .str _, .int _ => some false
  | .str a1, .str a2 => some (a1 == a2)
  | .str _, .tup _ => some false
  | .str _, .lst _ => some false
  | .tup _, .non => some false
  | .tup _, .bl _ => some false
  | .tup _, .int _ => some false
  | .tup _, .str _ => some false
  | .tup _, .lst _ => some false
  | .lst _, .non => some false
  | .lst _, .bl _ => some false
  | .lst _, .int _ => some false
  | .lst _, .str _ => some false
  | .lst _, .tup _ => some false
  | _, _ => none
structure Pairs (A : Around) (s : Shared) (f : Bool → Bool) (R : Value → Value → Bool → Prop) : Prop where
  none_none : ∀ (_ : True), R .none .none (f true)
  none_bool : ∀ (a2 : Bool), R .none (.bool a2) (f false)
  none_int : ∀ (a2 : Int) (t2 : Tok), R .none (.int a2 t2) (f false)
  none_str : ∀ (a2 : Str) (t2 : Tok), R .none (.str a2 t2) (f false)
  none_tuple : ∀ (l2 : Addr) (j2 : Array Value) (h2 : s.heap.IsTuple l2 j2), R .none (.ref l2) (f false)
  none_list : ∀ (l2 : Addr) (j2 : Array Value) (h2 : s.heap.IsList l2 j2), R .none (.ref l2) (f false)
  bool_none : ∀ (a1 : Bool), R (.bool a1) .none (f false)
  bool_bool : ∀ (a1 : Bool) (a2 : Bool), R (.bool a1) (.bool a2) (f (a1 == a2))
  bool_int : ∀ (a1 : Bool) (a2 : Int) (t2 : Tok), R (.bool a1) (.int a2 t2) (f ((if a1 then 1 else 0) == a2))
  bool_str : ∀ (a1 : Bool) (a2 : Str) (t2 : Tok), R (.bool a1) (.str a2 t2) (f false)
  bool_tuple : ∀ (a1 : Bool) (l2 : Addr) (j2 : Array Value) (h2 : s.heap.IsTuple l2 j2), R (.bool a1) (.ref l2) (f false)
  bool_list : ∀ (a1 : Bool) (l2 : Addr) (j2 : Array Value) (h2 : s.heap.IsList l2 j2), R (.bool a1) (.ref l2) (f false)
  int_none : ∀ (a1 : Int) (t1 : Tok), R (.int a1 t1) .none (f false)
  int_bool : ∀ (a1 : Int) (t1 : Tok) (a2 : Bool), R (.int a1 t1) (.bool a2) (f (a1 == (if a2 then 1 else 0)))
  int_int : ∀ (a1 : Int) (t1 : Tok) (a2 : Int) (t2 : Tok), R (.int a1 t1) (.int a2 t2) (f (a1 == a2))
  int_str : ∀ (a1 : Int) (t1 : Tok) (a2 : Str) (t2 : Tok), R (.int a1 t1) (.str a2 t2) (f false)
  int_tuple : ∀ (a1 : Int) (t1 : Tok) (l2 : Addr) (j2 : Array Value) (h2 : s.heap.IsTuple l2 j2), R (.int a1 t1) (.ref l2) (f false)
  int_list : ∀ (a1 : Int) (t1 : Tok) (l2 : Addr) (j2 : Array Value) (h2 : s.heap.IsList l2 j2), R (.int a1 t1) (.ref l2) (f false)
  str_none : ∀ (a1 : Str) (t1 : Tok), R (.str a1 t1) .none (f false)
  str_bool : ∀ (a1 : Str) (t1 : Tok) (a2 : Bool), R (.str a1 t1) (.bool a2) (f false)
  str_int : ∀ (a1 : Str) (t1 : Tok) (a2 : Int) (t2 : Tok), R (.str a1 t1) (.int a2 t2) (f false)
  str_str : ∀ (a1 : Str) (t1 : Tok) (a2 : Str) (t2 : Tok), R (.str a1 t1) (.str a2 t2) (f (a1 == a2))
  str_tuple : ∀ (a1 : Str) (t1 : Tok) (l2 : Addr) (j2 : Array Value) (h2 : s.heap.IsTuple l2 j2), R (.str a1 t1) (.ref l2) (f false)
  str_list : ∀ (a1 : Str) (t1 : Tok) (l2 : Addr) (j2 : Array Value) (h2 : s.heap.IsList l2 j2), R (.str a1 t1) (.ref l2) (f false)
  tuple_none : ∀ (l1 : Addr) (j1 : Array Value) (h1 : s.heap.IsTuple l1 j1), R (.ref l1) .none (f false)
  tuple_bool : ∀ (l1 : Addr) (j1 : Array Value) (h1 : s.heap.IsTuple l1 j1) (a2 : Bool), R (.ref l1) (.bool a2) (f false)
  tuple_int : ∀ (l1 : Addr) (j1 : Array Value) (h1 : s.heap.IsTuple l1 j1) (a2 : Int) (t2 : Tok), R (.ref l1) (.int a2 t2) (f false)
  tuple_str : ∀ (l1 : Addr) (j1 : Array Value) (h1 : s.heap.IsTuple l1 j1) (a2 : Str) (t2 : Tok), R (.ref l1) (.str a2 t2) (f false)
  tuple_list : ∀ (l1 : Addr) (j1 : Array Value) (h1 : s.heap.IsTuple l1 j1) (l2 : Addr) (j2 : Array Value) (h2 : s.heap.IsList l2 j2), R (.ref l1) (.ref l2) (f false)
  list_none : ∀ (l1 : Addr) (j1 : Array Value) (h1 : s.heap.IsList l1 j1), R (.ref l1) .none (f false)
  list_bool : ∀ (l1 : Addr) (j1 : Array Value) (h1 : s.heap.IsList l1 j1) (a2 : Bool), R (.ref l1) (.bool a2) (f false)
  list_int : ∀ (l1 : Addr) (j1 : Array Value) (h1 : s.heap.IsList l1 j1) (a2 : Int) (t2 : Tok), R (.ref l1) (.int a2 t2) (f false)
  list_str : ∀ (l1 : Addr) (j1 : Array Value) (h1 : s.heap.IsList l1 j1) (a2 : Str) (t2 : Tok), R (.ref l1) (.str a2 t2) (f false)
  list_tuple : ∀ (l1 : Addr) (j1 : Array Value) (h1 : s.heap.IsList l1 j1) (l2 : Addr) (j2 : Array Value) (h2 : s.heap.IsTuple l2 j2), R (.ref l1) (.ref l2) (f false)
theorem pairs_eq {A : Around} {s : Shared} (hu : A.units < cLine) : Pairs A s id (SeqAt.EqAt A s) where
  none_none := fun _ => SeqAt.EqAt.same _
  none_bool := fun a2 => SeqAt.EqAt.none_bool a2
  none_int := fun a2 t2 => SeqAt.EqAt.none_int a2 t2
  none_str := fun a2 t2 => SeqAt.EqAt.none_str a2 t2
  none_tuple := fun _ _ h2 => SeqAt.EqAt.none_tuple h2 hu
  none_list := fun _ _ h2 => SeqAt.EqAt.none_list h2 hu
  bool_none := fun a1 => SeqAt.EqAt.bool_none a1
  bool_bool := fun a1 a2 => SeqAt.EqAt.bool_bool a1 a2
  bool_int := fun a1 a2 t2 => SeqAt.EqAt.bool_int a1 a2 t2
  bool_str := fun a1 a2 t2 => SeqAt.EqAt.bool_str a1 a2 t2
  bool_tuple := fun a1 _ _ h2 => SeqAt.EqAt.bool_tuple a1 h2 hu
  bool_list := fun a1 _ _ h2 => SeqAt.EqAt.bool_list a1 h2 hu
  int_none := fun a1 t1 => SeqAt.EqAt.int_none a1 t1
  int_bool := fun a1 t1 a2 => SeqAt.EqAt.int_bool a1 t1 a2
  int_int := fun a1 t1 a2 t2 => SeqAt.EqAt.int_int a1 t1 a2 t2
  int_str := fun a1 t1 a2 t2 => SeqAt.EqAt.int_str a1 t1 a2 t2
  int_tuple := fun a1 t1 _ _ h2 => SeqAt.EqAt.int_tuple a1 t1 h2 hu
  int_list := fun a1 t1 _ _ h2 => SeqAt.EqAt.int_list a1 t1 h2 hu
  str_none := fun a1 t1 => SeqAt.EqAt.str_none a1 t1
  str_bool := fun a1 t1 a2 => SeqAt.EqAt.str_bool a1 t1 a2
  str_int := fun a1 t1 a2 t2 => SeqAt.EqAt.str_int a1 t1 a2 t2
  str_str := fun a1 t1 a2 t2 => SeqAt.EqAt.str_str a1 t1 a2 t2
  str_tuple := fun a1 t1 _ _ h2 => SeqAt.EqAt.str_tuple a1 t1 h2 hu
  str_list := fun a1 t1 _ _ h2 => SeqAt.EqAt.str_list a1 t1 h2 hu
  tuple_none := fun _ _ h1 => SeqAt.EqAt.tuple_none h1 hu
  tuple_bool := fun _ _ h1 a2 => SeqAt.EqAt.tuple_bool a2 h1 hu
  tuple_int := fun _ _ h1 a2 t2 => SeqAt.EqAt.tuple_int a2 t2 h1 hu
  tuple_str := fun _ _ h1 a2 t2 => SeqAt.EqAt.tuple_str a2 t2 h1 hu
  tuple_list := fun _ _ h1 _ _ h2 => SeqAt.EqAt.tuple_list h1 h2 hu
  list_none := fun _ _ h1 => SeqAt.EqAt.list_none h1 hu
  list_bool := fun _ _ h1 a2 => SeqAt.EqAt.list_bool a2 h1 hu
  list_int := fun _ _ h1 a2 t2 => SeqAt.EqAt.list_int a2 t2 h1 hu
  list_str := fun _ _ h1 a2 t2 => SeqAt.EqAt.list_str a2 t2 h1 hu
  list_tuple := fun _ _ h1 _ _ h2 => SeqAt.EqAt.list_tuple h1 h2 hu
theorem pairs_rc {A : Around} {s : Shared} (hu : A.units < cLine) : Pairs A s id (SeqAt.RcAt A s) where
  none_none := fun _ => SeqAt.RcAt.none_none
  none_bool := fun a2 => SeqAt.RcAt.none_bool a2
  none_int := fun a2 t2 => SeqAt.RcAt.none_int a2 t2
  none_str := fun a2 t2 => SeqAt.RcAt.none_str a2 t2
  none_tuple := fun _ _ h2 => SeqAt.RcAt.none_tuple h2 hu
  none_list := fun _ _ h2 => SeqAt.RcAt.none_list h2 hu
  bool_none := fun a1 => SeqAt.RcAt.bool_none a1
  bool_bool := fun a1 a2 => SeqAt.RcAt.bool_bool a1 a2
  bool_int := fun a1 a2 t2 => SeqAt.RcAt.bool_int a1 a2 t2
  bool_str := fun a1 a2 t2 => SeqAt.RcAt.bool_str a1 a2 t2
  bool_tuple := fun a1 _ _ h2 => SeqAt.RcAt.bool_tuple a1 h2 hu
  bool_list := fun a1 _ _ h2 => SeqAt.RcAt.bool_list a1 h2 hu
  int_none := fun a1 t1 => SeqAt.RcAt.int_none a1 t1
  int_bool := fun a1 t1 a2 => SeqAt.RcAt.int_bool a1 t1 a2
  int_int := fun a1 t1 a2 t2 => SeqAt.RcAt.int_int a1 t1 a2 t2
  int_str := fun a1 t1 a2 t2 => SeqAt.RcAt.int_str a1 t1 a2 t2
  int_tuple := fun a1 t1 _ _ h2 => SeqAt.RcAt.int_tuple a1 t1 h2 hu
  int_list := fun a1 t1 _ _ h2 => SeqAt.RcAt.int_list a1 t1 h2 hu
  str_none := fun a1 t1 => SeqAt.RcAt.str_none a1 t1
  str_bool := fun a1 t1 a2 => SeqAt.RcAt.str_bool a1 t1 a2
  str_int := fun a1 t1 a2 t2 => SeqAt.RcAt.str_int a1 t1 a2 t2
  str_str := fun a1 t1 a2 t2 => SeqAt.RcAt.str_str a1 t1 a2 t2
  str_tuple := fun a1 t1 _ _ h2 => SeqAt.RcAt.str_tuple a1 t1 h2 hu
  str_list := fun a1 t1 _ _ h2 => SeqAt.RcAt.str_list a1 t1 h2 hu
  tuple_none := fun _ _ h1 => SeqAt.RcAt.tuple_none h1 hu
  tuple_bool := fun _ _ h1 a2 => SeqAt.RcAt.tuple_bool a2 h1 hu
  tuple_int := fun _ _ h1 a2 t2 => SeqAt.RcAt.tuple_int a2 t2 h1 hu
  tuple_str := fun _ _ h1 a2 t2 => SeqAt.RcAt.tuple_str a2 t2 h1 hu
  tuple_list := fun _ _ h1 _ _ h2 => SeqAt.RcAt.tuple_list h1 h2 hu
  list_none := fun _ _ h1 => SeqAt.RcAt.list_none h1 hu
  list_bool := fun _ _ h1 a2 => SeqAt.RcAt.list_bool a2 h1 hu
  list_int := fun _ _ h1 a2 t2 => SeqAt.RcAt.list_int a2 t2 h1 hu
  list_str := fun _ _ h1 a2 t2 => SeqAt.RcAt.list_str a2 t2 h1 hu
  list_tuple := fun _ _ h1 _ _ h2 => SeqAt.RcAt.list_tuple h1 h2 hu
theorem pairs_rn {A : Around} {s : Shared} (hu : A.units < cLine) : Pairs A s Bool.not (SeqAt.RcNeAt A s) where
  none_none := fun _ => SeqAt.RcNeAt.none_none
  none_bool := fun a2 => SeqAt.RcNeAt.none_bool a2
  none_int := fun a2 t2 => SeqAt.RcNeAt.none_int a2 t2
  none_str := fun a2 t2 => SeqAt.RcNeAt.none_str a2 t2
  none_tuple := fun _ _ h2 => SeqAt.RcNeAt.none_tuple h2 hu
  none_list := fun _ _ h2 => SeqAt.RcNeAt.none_list h2 hu
  bool_none := fun a1 => SeqAt.RcNeAt.bool_none a1
  bool_bool := fun a1 a2 => SeqAt.RcNeAt.bool_bool a1 a2
  bool_int := fun a1 a2 t2 => SeqAt.RcNeAt.bool_int a1 a2 t2
  bool_str := fun a1 a2 t2 => SeqAt.RcNeAt.bool_str a1 a2 t2
  bool_tuple := fun a1 _ _ h2 => SeqAt.RcNeAt.bool_tuple a1 h2 hu
  bool_list := fun a1 _ _ h2 => SeqAt.RcNeAt.bool_list a1 h2 hu
  int_none := fun a1 t1 => SeqAt.RcNeAt.int_none a1 t1
  int_bool := fun a1 t1 a2 => SeqAt.RcNeAt.int_bool a1 t1 a2
  int_int := fun a1 t1 a2 t2 => SeqAt.RcNeAt.int_int a1 t1 a2 t2
  int_str := fun a1 t1 a2 t2 => SeqAt.RcNeAt.int_str a1 t1 a2 t2
  int_tuple := fun a1 t1 _ _ h2 => SeqAt.RcNeAt.int_tuple a1 t1 h2 hu
  int_list := fun a1 t1 _ _ h2 => SeqAt.RcNeAt.int_list a1 t1 h2 hu
  str_none := fun a1 t1 => SeqAt.RcNeAt.str_none a1 t1
  str_bool := fun a1 t1 a2 => SeqAt.RcNeAt.str_bool a1 t1 a2
  str_int := fun a1 t1 a2 t2 => SeqAt.RcNeAt.str_int a1 t1 a2 t2
  str_str := fun a1 t1 a2 t2 => SeqAt.RcNeAt.str_str a1 t1 a2 t2
  str_tuple := fun a1 t1 _ _ h2 => SeqAt.RcNeAt.str_tuple a1 t1 h2 hu
  str_list := fun a1 t1 _ _ h2 => SeqAt.RcNeAt.str_list a1 t1 h2 hu
  tuple_none := fun _ _ h1 => SeqAt.RcNeAt.tuple_none h1 hu
  tuple_bool := fun _ _ h1 a2 => SeqAt.RcNeAt.tuple_bool a2 h1 hu
  tuple_int := fun _ _ h1 a2 t2 => SeqAt.RcNeAt.tuple_int a2 t2 h1 hu
  tuple_str := fun _ _ h1 a2 t2 => SeqAt.RcNeAt.tuple_str a2 t2 h1 hu
  tuple_list := fun _ _ h1 _ _ h2 => SeqAt.RcNeAt.tuple_list h1 h2 hu
  list_none := fun _ _ h1 => SeqAt.RcNeAt.list_none h1 hu
  list_bool := fun _ _ h1 a2 => SeqAt.RcNeAt.list_bool a2 h1 hu
  list_int := fun _ _ h1 a2 t2 => SeqAt.RcNeAt.list_int a2 t2 h1 hu
  list_str := fun _ _ h1 a2 t2 => SeqAt.RcNeAt.list_str a2 t2 h1 hu
  list_tuple := fun _ _ h1 _ _ h2 => SeqAt.RcNeAt.list_tuple h1 h2 hu
theorem pairs_at {X : Cx} {pins : List (Addr × Obj)} {sg : L2.St} {H : Hp} {s : Shared} {W : Addr → Prop} {io : List Addr} (I : Inv X pins sg H s) {A : Around} {f : Bool → Bool} {R : Value → Value → Bool → Prop} (P : Pairs A s f R) : ∀ (u1 u2 : U) {x1 x2 : V} {v1 v2 : Value} {b : Bool}, Rep X.K W io H u1 x1 → Rep X.K W io H u2 x2 → RelV x1 v1 → RelV x2 v2 → eqP u1 u2 = some b → R v1 v2 (f b)
  | .non, .non, x1, x2, v1, v2, b, r1, r2, rv1, rv2, e => by
    have e1 := r1.non'; subst e1; have z1 : v1 = Value.none := rv1; subst z1
    have e2 := r2.non'; subst e2; have z2 : v2 = Value.none := rv2; subst z2
    cases e; exact P.none_none trivial
  | .non, .bl a2, x1, x2, v1, v2, b, r1, r2, rv1, rv2, e => by
    have e1 := r1.non'; subst e1; have z1 : v1 = Value.none := rv1; subst z1
    have e2 := r2.bl'; subst e2; have z2 : v2 = Value.bool a2 := rv2; subst z2
    cases e; exact P.none_bool a2
  | .non, .int a2, x1, x2, v1, v2, b, r1, r2, rv1, rv2, e => by
    have e1 := r1.non'; subst e1; have z1 : v1 = Value.none := rv1; subst z1
    have e2 := r2.int'; subst e2; obtain ⟨t2, z2⟩ := rv2; subst z2
    cases e; exact P.none_int a2 t2
  | .non, .str a2, x1, x2, v1, v2, b, r1, r2, rv1, rv2, e => by
    have e1 := r1.non'; subst e1; have z1 : v1 = Value.none := rv1; subst z1
    have e2 := r2.str'; subst e2; obtain ⟨t2, z2⟩ := rv2; subst z2
    cases e; exact P.none_str a2 t2
  | .non, .tup us2, x1, x2, v1, v2, b, r1, r2, rv1, rv2, e => by
    have e1 := r1.non'; subst e1; have z1 : v1 = Value.none := rv1; subst z1
    obtain ⟨l2, vs2, e2, q2, p2⟩ := r2.tup'; subst e2; have z2 : v2 = Value.ref l2 := rv2; subst z2; obtain ⟨its2, w2, h2, _⟩ := I.tuple q2.sq
    cases e; exact P.none_tuple _ _ h2
  | .non, .lst us2, x1, x2, v1, v2, b, r1, r2, rv1, rv2, e => by
    have e1 := r1.non'; subst e1; have z1 : v1 = Value.none := rv1; subst z1
    obtain ⟨l2, vs2, e2, q2, p2⟩ := r2.lst'; subst e2; have z2 : v2 = Value.ref l2 := rv2; subst z2; obtain ⟨its2, w2, g2, _⟩ := I.list q2.sq; have h2 := g2.isList
    cases e; exact P.none_list _ _ h2
  | .bl a1, .non, x1, x2, v1, v2, b, r1, r2, rv1, rv2, e => by
    have e1 := r1.bl'; subst e1; have z1 : v1 = Value.bool a1 := rv1; subst z1
    have e2 := r2.non'; subst e2; have z2 : v2 = Value.none := rv2; subst z2
    cases e; exact P.bool_none a1
  | .bl a1, .bl a2, x1, x2, v1, v2, b, r1, r2, rv1, rv2, e => by
    have e1 := r1.bl'; subst e1; have z1 : v1 = Value.bool a1 := rv1; subst z1
    have e2 := r2.bl'; subst e2; have z2 : v2 = Value.bool a2 := rv2; subst z2
    cases e; exact P.bool_bool a1 a2
  | .bl a1, .int a2, x1, x2, v1, v2, b, r1, r2, rv1, rv2, e => by
    have e1 := r1.bl'; subst e1; have z1 : v1 = Value.bool a1 := rv1; subst z1
    have e2 := r2.int'; subst e2; obtain ⟨t2, z2⟩ := rv2; subst z2
    cases e; exact P.bool_int a1 a2 t2
  | .bl a1, .str a2, x1, x2, v1, v2, b, r1, r2, rv1, rv2, e => by
    have e1 := r1.bl'; subst e1; have z1 : v1 = Value.bool a1 := rv1; subst z1
    have e2 := r2.str'; subst e2; obtain ⟨t2, z2⟩ := rv2; subst z2
    cases e; exact P.bool_str a1 a2 t2
  | .bl a1, .tup us2, x1, x2, v1, v2, b, r1, r2, rv1, rv2, e => by
    have e1 := r1.bl'; subst e1; have z1 : v1 = Value.bool a1 := rv1; subst z1
    obtain ⟨l2, vs2, e2, q2, p2⟩ := r2.tup'; subst e2; have z2 : v2 = Value.ref l2 := rv2; subst z2; obtain ⟨its2, w2, h2, _⟩ := I.tuple q2.sq
    cases e; exact P.bool_tuple a1 _ _ h2
  | .bl a1, .lst us2, x1, x2, v1, v2, b, r1, r2, rv1, rv2, e => by
    have e1 := r1.bl'; subst e1; have z1 : v1 = Value.bool a1 := rv1; subst z1
    obtain ⟨l2, vs2, e2, q2, p2⟩ := r2.lst'; subst e2; have z2 : v2 = Value.ref l2 := rv2; subst z2; obtain ⟨its2, w2, g2, _⟩ := I.list q2.sq; have h2 := g2.isList
    cases e; exact P.bool_list a1 _ _ h2
  | .int a1, .non, x1, x2, v1, v2, b, r1, r2, rv1, rv2, e => by
    have e1 := r1.int'; subst e1; obtain ⟨t1, z1⟩ := rv1; subst z1
    have e2 := r2.non'; subst e2; have z2 : v2 = Value.none := rv2; subst z2
    cases e; exact P.int_none a1 t1
  | .int a1, .bl a2, x1, x2, v1, v2, b, r1, r2, rv1, rv2, e => by
    have e1 := r1.int'; subst e1; obtain ⟨t1, z1⟩ := rv1; subst z1
    have e2 := r2.bl'; subst e2; have z2 : v2 = Value.bool a2 := rv2; subst z2
    cases e; exact P.int_bool a1 t1 a2
  | .int a1, .int a2, x1, x2, v1, v2, b, r1, r2, rv1, rv2, e => by
    have e1 := r1.int'; subst e1; obtain ⟨t1, z1⟩ := rv1; subst z1
    have e2 := r2.int'; subst e2; obtain ⟨t2, z2⟩ := rv2; subst z2
    cases e; exact P.int_int a1 t1 a2 t2
  | .int a1, .str a2, x1, x2, v1, v2, b, r1, r2, rv1, rv2, e => by
    have e1 := r1.int'; subst e1; obtain ⟨t1, z1⟩ := rv1; subst z1
    have e2 := r2.str'; subst e2; obtain ⟨t2, z2⟩ := rv2; subst z2
    cases e; exact P.int_str a1 t1 a2 t2
  | .int a1, .tup us2, x1, x2, v1, v2, b, r1, r2, rv1, rv2, e => by
    have e1 := r1.int'; subst e1; obtain ⟨t1, z1⟩ := rv1; subst z1
    obtain ⟨l2, vs2, e2, q2, p2⟩ := r2.tup'; subst e2; have z2 : v2 = Value.ref l2 := rv2; subst z2; obtain ⟨its2, w2, h2, _⟩ := I.tuple q2.sq
    cases e; exact P.int_tuple a1 t1 _ _ h2
  | .int a1, .lst us2, x1, x2, v1, v2, b, r1, r2, rv1, rv2, e => by
    have e1 := r1.int'; subst e1; obtain ⟨t1, z1⟩ := rv1; subst z1
    obtain ⟨l2, vs2, e2, q2, p2⟩ := r2.lst'; subst e2; have z2 : v2 = Value.ref l2 := rv2; subst z2; obtain ⟨its2, w2, g2, _⟩ := I.list q2.sq; have h2 := g2.isList
    cases e; exact P.int_list a1 t1 _ _ h2
  | .str a1, .non, x1, x2, v1, v2, b, r1, r2, rv1, rv2, e => by
    have e1 := r1.str'; subst e1; obtain ⟨t1, z1⟩ := rv1; subst z1
    have e2 := r2.non'; subst e2; have z2 : v2 = Value.none := rv2; subst z2
    cases e; exact P.str_none a1 t1
  | .str a1, .bl a2, x1, x2, v1, v2, b, r1, r2, rv1, rv2, e => by
    have e1 := r1.str'; subst e1; obtain ⟨t1, z1⟩ := rv1; subst z1
    have e2 := r2.bl'; subst e2; have z2 : v2 = Value.bool a2 := rv2; subst z2
    cases e; exact P.str_bool a1 t1 a2
  | .str a1, .int a2, x1, x2, v1, v2, b, r1, r2, rv1, rv2, e => by
    have e1 := r1.str'; subst e1; obtain ⟨t1, z1⟩ := rv1; subst z1
    have e2 := r2.int'; subst e2; obtain ⟨t2, z2⟩ := rv2; subst z2
    cases e; exact P.str_int a1 t1 a2 t2
  | .str a1, .str a2, x1, x2, v1, v2, b, r1, r2, rv1, rv2, e => by
    have e1 := r1.str'; subst e1; obtain ⟨t1, z1⟩ := rv1; subst z1
    have e2 := r2.str'; subst e2; obtain ⟨t2, z2⟩ := rv2; subst z2
    cases e; exact P.str_str a1 t1 a2 t2
  | .str a1, .tup us2, x1, x2, v1, v2, b, r1, r2, rv1, rv2, e => by
    have e1 := r1.str'; subst e1; obtain ⟨t1, z1⟩ := rv1; subst z1
    obtain ⟨l2, vs2, e2, q2, p2⟩ := r2.tup'; subst e2; have z2 : v2 = Value.ref l2 := rv2; subst z2; obtain ⟨its2, w2, h2, _⟩ := I.tuple q2.sq
    cases e; exact P.str_tuple a1 t1 _ _ h2
  | .str a1, .lst us2, x1, x2, v1, v2, b, r1, r2, rv1, rv2, e => by
    have e1 := r1.str'; subst e1; obtain ⟨t1, z1⟩ := rv1; subst z1
    obtain ⟨l2, vs2, e2, q2, p2⟩ := r2.lst'; subst e2; have z2 : v2 = Value.ref l2 := rv2; subst z2; obtain ⟨its2, w2, g2, _⟩ := I.list q2.sq; have h2 := g2.isList
    cases e; exact P.str_list a1 t1 _ _ h2
  | .tup us1, .non, x1, x2, v1, v2, b, r1, r2, rv1, rv2, e => by
    obtain ⟨l1, vs1, e1, q1, p1⟩ := r1.tup'; subst e1; have z1 : v1 = Value.ref l1 := rv1; subst z1; obtain ⟨its1, w1, h1, _⟩ := I.tuple q1.sq
    have e2 := r2.non'; subst e2; have z2 : v2 = Value.none := rv2; subst z2
    cases e; exact P.tuple_none _ _ h1
  | .tup us1, .bl a2, x1, x2, v1, v2, b, r1, r2, rv1, rv2, e => by
    obtain ⟨l1, vs1, e1, q1, p1⟩ := r1.tup'; subst e1; have z1 : v1 = Value.ref l1 := rv1; subst z1; obtain ⟨its1, w1, h1, _⟩ := I.tuple q1.sq
    have e2 := r2.bl'; subst e2; have z2 : v2 = Value.bool a2 := rv2; subst z2
    cases e; exact P.tuple_bool _ _ h1 a2
  | .tup us1, .int a2, x1, x2, v1, v2, b, r1, r2, rv1, rv2, e => by
    obtain ⟨l1, vs1, e1, q1, p1⟩ := r1.tup'; subst e1; have z1 : v1 = Value.ref l1 := rv1; subst z1; obtain ⟨its1, w1, h1, _⟩ := I.tuple q1.sq
    have e2 := r2.int'; subst e2; obtain ⟨t2, z2⟩ := rv2; subst z2
    cases e; exact P.tuple_int _ _ h1 a2 t2
  | .tup us1, .str a2, x1, x2, v1, v2, b, r1, r2, rv1, rv2, e => by
    obtain ⟨l1, vs1, e1, q1, p1⟩ := r1.tup'; subst e1; have z1 : v1 = Value.ref l1 := rv1; subst z1; obtain ⟨its1, w1, h1, _⟩ := I.tuple q1.sq
    have e2 := r2.str'; subst e2; obtain ⟨t2, z2⟩ := rv2; subst z2
    cases e; exact P.tuple_str _ _ h1 a2 t2
  | .tup us1, .lst us2, x1, x2, v1, v2, b, r1, r2, rv1, rv2, e => by
    obtain ⟨l1, vs1, e1, q1, p1⟩ := r1.tup'; subst e1; have z1 : v1 = Value.ref l1 := rv1; subst z1; obtain ⟨its1, w1, h1, _⟩ := I.tuple q1.sq
    obtain ⟨l2, vs2, e2, q2, p2⟩ := r2.lst'; subst e2; have z2 : v2 = Value.ref l2 := rv2; subst z2; obtain ⟨its2, w2, g2, _⟩ := I.list q2.sq; have h2 := g2.isList
    cases e; exact P.tuple_list _ _ h1 _ _ h2
  | .lst us1, .non, x1, x2, v1, v2, b, r1, r2, rv1, rv2, e => by
    obtain ⟨l1, vs1, e1, q1, p1⟩ := r1.lst'; subst e1; have z1 : v1 = Value.ref l1 := rv1; subst z1; obtain ⟨its1, w1, g1, _⟩ := I.list q1.sq; have h1 := g1.isList
    have e2 := r2.non'; subst e2; have z2 : v2 = Value.none := rv2; subst z2
    cases e; exact P.list_none _ _ h1
  | .lst us1, .bl a2, x1, x2, v1, v2, b, r1, r2, rv1, rv2, e => by
    obtain ⟨l1, vs1, e1, q1, p1⟩ := r1.lst'; subst e1; have z1 : v1 = Value.ref l1 := rv1; subst z1; obtain ⟨its1, w1, g1, _⟩ := I.list q1.sq; have h1 := g1.isList
    have e2 := r2.bl'; subst e2; have z2 : v2 = Value.bool a2 := rv2; subst z2
    cases e; exact P.list_bool _ _ h1 a2
  | .lst us1, .int a2, x1, x2, v1, v2, b, r1, r2, rv1, rv2, e => by
    obtain ⟨l1, vs1, e1, q1, p1⟩ := r1.lst'; subst e1; have z1 : v1 = Value.ref l1 := rv1; subst z1; obtain ⟨its1, w1, g1, _⟩ := I.list q1.sq; have h1 := g1.isList
    have e2 := r2.int'; subst e2; obtain ⟨t2, z2⟩ := rv2; subst z2
    cases e; exact P.list_int _ _ h1 a2 t2
  | .lst us1, .str a2, x1, x2, v1, v2, b, r1, r2, rv1, rv2, e => by
    obtain ⟨l1, vs1, e1, q1, p1⟩ := r1.lst'; subst e1; have z1 : v1 = Value.ref l1 := rv1; subst z1; obtain ⟨its1, w1, g1, _⟩ := I.list q1.sq; have h1 := g1.isList
    have e2 := r2.str'; subst e2; obtain ⟨t2, z2⟩ := rv2; subst z2
    cases e; exact P.list_str _ _ h1 a2 t2
  | .lst us1, .tup us2, x1, x2, v1, v2, b, r1, r2, rv1, rv2, e => by
    obtain ⟨l1, vs1, e1, q1, p1⟩ := r1.lst'; subst e1; have z1 : v1 = Value.ref l1 := rv1; subst z1; obtain ⟨its1, w1, g1, _⟩ := I.list q1.sq; have h1 := g1.isList
    obtain ⟨l2, vs2, e2, q2, p2⟩ := r2.tup'; subst e2; have z2 : v2 = Value.ref l2 := rv2; subst z2; obtain ⟨its2, w2, h2, _⟩ := I.tuple q2.sq
    cases e; exact P.list_tuple _ _ h1 _ _ h2
  | .tup us1, .tup us2, _, _, _, _, _, _, _, _, _, h => nomatch h
  | .lst us1, .lst us2, _, _, _, _, _, _, _, _, _, h => nomatch h
  | .dct _ _, u2, _, _, _, _, _, _, _, _, _, h => by cases u2 <;> cases h
  | .non, .dct _ _, _, _, _, _, _, _, _, _, _, h => nomatch h
  | .bl _, .dct _ _, _, _, _, _, _, _, _, _, _, h => nomatch h
  | .int _, .dct _ _, _, _, _, _, _, _, _, _, _, h => nomatch h
  | .str _, .dct _ _, _, _, _, _, _, _, _, _, _, h => nomatch h
  | .tup _, .dct _ _, _, _, _, _, _, _, _, _, _, h => nomatch h
  | .lst _, .dct _ _, _, _, _, _, _, _, _, _, _, h => nomatch h
  | .ref _, u2, _, _, _, _, _, _, _, _, _, h => by cases u2 <;> cases h
  | .non, .ref _, _, _, _, _, _, _, _, _, _, h => nomatch h
  | .bl _, .ref _, _, _, _, _, _, _, _, _, _, h => nomatch h
  | .int _, .ref _, _, _, _, _, _, _, _, _, _, h => nomatch h
  | .str _, .ref _, _, _, _, _, _, _, _, _, _, h => nomatch h
  | .tup _, .ref _, _, _, _, _, _, _, _, _, _, h => nomatch h
  | .lst _, .ref _, _, _, _, _, _, _, _, _, _, h => nomatch h
  | .ty _, u2, _, _, _, _, _, _, _, _, _, h => by cases u2 <;> cases h
  | .non, .ty _, _, _, _, _, _, _, _, _, _, h => nomatch h
  | .bl _, .ty _, _, _, _, _, _, _, _, _, _, h => nomatch h
  | .int _, .ty _, _, _, _, _, _, _, _, _, _, h => nomatch h
  | .str _, .ty _, _, _, _, _, _, _, _, _, _, h => nomatch h
  | .tup _, .ty _, _, _, _, _, _, _, _, _, _, h => nomatch h
  | .lst _, .ty _, _, _, _, _, _, _, _, _, _, h => nomatch h
  | .scr _, u2, _, _, _, _, _, _, _, _, _, h => by cases u2 <;> cases h
  | .non, .scr _, _, _, _, _, _, _, _, _, _, h => nomatch h
  | .bl _, .scr _, _, _, _, _, _, _, _, _, _, h => nomatch h
  | .int _, .scr _, _, _, _, _, _, _, _, _, _, h => nomatch h
  | .str _, .scr _, _, _, _, _, _, _, _, _, _, h => nomatch h
  | .tup _, .scr _, _, _, _, _, _, _, _, _, _, h => nomatch h
  | .lst _, .scr _, _, _, _, _, _, _, _, _, _, h => nomatch h
def eqZ (f : U → U → Option Bool) : List U → List U → Option Bool
  | u :: us, v :: vs => match f u v, eqZ f us vs with
    | some a, some b => some (a && b)
    | _, _ => none
  | _, _ => some true
def eqF : Nat → U → U → Option Bool
  | 0, _, _ => none
  | n + 1, .tup us, .tup vs => (eqZ (eqF n) us vs).map (fun b => b && decide (us.length = vs.length))
  | n + 1, .lst us, .lst vs => if us.length = vs.length then eqZ (eqF n) us vs else some false
  | _ + 1, u, v => eqP u v
theorem eqZ_get {f : U → U → Option Bool} : ∀ {us vs : List U} {b : Bool}, eqZ f us vs = some b → ∀ (j : Nat) (u v : U), us[j]? = some u → vs[j]? = some v → ∃ c, f u v = some c ∧ (b = true → c = true)
  | [], _, _, _, _, _, _, e, _ => by simp at e
  | _ :: _, [], _, _, _, _, _, _, e => by simp at e
  | u :: us, v :: vs, b, h, j, u', v', e1, e2 => by
    unfold eqZ at h
    split at h
    · rename_i a c ha hc
      cases h
      cases j with
      | zero =>
        simp at e1 e2; subst e1; subst e2
        exact ⟨a, ha, fun z => (Bool.and_eq_true_iff.mp z).1⟩
      | succ j =>
        obtain ⟨d, h1, h2⟩ := eqZ_get hc j u' v' (by simpa using e1) (by simpa using e2)
        exact ⟨d, h1, fun z => h2 (Bool.and_eq_true_iff.mp z).2⟩
    · cases h
theorem eqZ_all {f : U → U → Option Bool} : ∀ {us vs : List U} {b : Bool}, eqZ f us vs = some b → (∀ (j : Nat) (u v : U), us[j]? = some u → vs[j]? = some v → f u v = some true) → b = true
  | [], _, _, h, _ => by unfold eqZ at h; cases h; rfl
  | _ :: _, [], _, h, _ => by unfold eqZ at h; cases h; rfl
  | u :: us, v :: vs, b, h, k => by
    unfold eqZ at h
    split at h
    · rename_i a c ha hc
      cases h
      have h1 := k 0 u v rfl rfl
      rw [ha] at h1; cases h1
      have h2 := eqZ_all hc fun j u' v' e1 e2 => k (j + 1) u' v' (by simpa using e1) (by simpa using e2)
      subst h2; rfl
    · cases h
theorem eqF_mix (n : Nat) (u w : U) (h1 : ¬ ∃ us vs, u = .tup us ∧ w = .tup vs) (h2 : ¬ ∃ us vs, u = .lst us ∧ w = .lst vs) : eqF (n + 1) u w = eqP u w := by
  unfold eqF
  split
  · rename_i h; cases h
  · exact (h1 ⟨_, _, rfl, rfl⟩).elim
  · exact (h2 ⟨_, _, rfl, rfl⟩).elim
  · rfl
section
variable {X : Cx} {pins : List (Addr × Obj)} {sg : L2.St} {H : Hp} {s : Shared} {W : Addr → Prop} {io : List Addr}
theorem eqP_same (I : Inv X pins sg H s) : ∀ (u w : U) {x : V} {b : Bool}, Rep X.K W io H u x → Rep X.K W io H w x → eqP u w = some b → b = true := by
  intro u w x b r1 r2 e
  cases u with
  | non =>
    have e1 := r1.non'; subst e1
    cases w <;> first | (cases e; rfl) | cases e
    · cases r2.bl'
    · cases r2.int'
    · cases r2.str'
    · obtain ⟨_, _, z, _⟩ := r2.tup'; cases z
    · obtain ⟨_, _, z, _⟩ := r2.lst'; cases z
  | bl c =>
    have e1 := r1.bl'; subst e1
    cases w with
    | bl d => cases r2.bl'; cases e; simp
    | non => cases r2.non'
    | int i => cases r2.int'
    | str i => cases r2.str'
    | tup us => obtain ⟨_, _, z, _⟩ := r2.tup'; cases z
    | lst us => obtain ⟨_, _, z, _⟩ := r2.lst'; cases z
    | _ => cases e
  | int c =>
    have e1 := r1.int'; subst e1
    cases w with
    | int d => cases r2.int'; cases e; simp
    | non => cases r2.non'
    | bl i => cases r2.bl'
    | str i => cases r2.str'
    | tup us => obtain ⟨_, _, z, _⟩ := r2.tup'; cases z
    | lst us => obtain ⟨_, _, z, _⟩ := r2.lst'; cases z
    | _ => cases e
  | str c =>
    have e1 := r1.str'; subst e1
    cases w with
    | str d => cases r2.str'; cases e; simp
    | non => cases r2.non'
    | bl i => cases r2.bl'
    | int i => cases r2.int'
    | tup us => obtain ⟨_, _, z, _⟩ := r2.tup'; cases z
    | lst us => obtain ⟨_, _, z, _⟩ := r2.lst'; cases z
    | _ => cases e
  | tup us =>
    obtain ⟨a, vs, e1, l, _⟩ := r1.tup'; subst e1
    cases w with
    | non => cases r2.non'
    | bl i => cases r2.bl'
    | int i => cases r2.int'
    | str i => cases r2.str'
    | lst us =>
      obtain ⟨_, _, z, l2, _⟩ := r2.lst'; cases z
      obtain ⟨_, _, h1, _⟩ := I.tuple l.sq
      obtain ⟨_, _, h2, _⟩ := I.list l2.sq
      exact (SeqAt.ne_of_list_tuple h2.isList h1 rfl).elim
    | _ => cases e
  | lst us =>
    obtain ⟨a, vs, e1, l, _⟩ := r1.lst'; subst e1
    cases w with
    | non => cases r2.non'
    | bl i => cases r2.bl'
    | int i => cases r2.int'
    | str i => cases r2.str'
    | tup us =>
      obtain ⟨_, _, z, l2, _⟩ := r2.tup'; cases z
      obtain ⟨_, _, h1, _⟩ := I.tuple l2.sq
      obtain ⟨_, _, h2, _⟩ := I.list l.sq
      exact (SeqAt.ne_of_list_tuple h2.isList h1 rfl).elim
    | _ => cases e
  | _ => cases w <;> cases e
theorem eqZ_same {f : U → U → Option Bool} {us ws : List U} {vs : List V} {b : Bool} (r1 : Reps X.K W io H us vs) (r2 : Reps X.K W io H ws vs) (ih : ∀ (u w : U) (x : V) (b : Bool), Rep X.K W io H u x → Rep X.K W io H w x → f u w = some b → b = true) (h : eqZ f us ws = some b) : b = true := by
  refine eqZ_all h fun j u v e1 e2 => ?_
  obtain ⟨c, h1, _⟩ := eqZ_get h j u v e1 e2
  obtain ⟨x, g1, p1⟩ := r1.get e1
  obtain ⟨y, g2, p2⟩ := r2.get e2
  rw [g1] at g2; cases g2
  rw [h1, ih u v x c p1 p2 h1]
theorem eqF_same (I : Inv X pins sg H s) : ∀ (n : Nat) (u w : U) (x : V) (b : Bool), Rep X.K W io H u x → Rep X.K W io H w x → eqF n u w = some b → b = true
  | 0, _, _, _, _, _, _, h => by unfold eqF at h; cases h
  | n + 1, u, w, x, b, r1, r2, h => by
    by_cases h1 : ∃ us vs, u = .tup us ∧ w = .tup vs
    · obtain ⟨us, ws, rfl, rfl⟩ := h1
      obtain ⟨a, vs, e1, l, p1⟩ := r1.tup'; subst e1
      obtain ⟨_, _, z, l2, p2⟩ := r2.tup'; cases z
      have e := I.tuple_inj l.sq l2.sq; subst e
      unfold eqF at h
      cases q : eqZ (eqF n) us ws with
      | none => rw [q] at h; cases h
      | some c =>
        rw [q] at h; cases h
        rw [eqZ_same p1 p2 (fun u w x b => eqF_same I n u w x b) q, p1.length, p2.length]
        simp
    · by_cases h2 : ∃ us vs, u = .lst us ∧ w = .lst vs
      · obtain ⟨us, ws, rfl, rfl⟩ := h2
        obtain ⟨a, vs, e1, l, p1⟩ := r1.lst'; subst e1
        obtain ⟨_, _, z, l2, p2⟩ := r2.lst'; cases z
        have e := I.list_inj l.sq l2.sq; subst e
        unfold eqF at h
        rw [if_pos (by rw [p1.length, p2.length])] at h
        exact eqZ_same p1 p2 (fun u w x b => eqF_same I n u w x b) h
      · rw [eqF_mix n u w h1 h2] at h
        exact eqP_same I u w r1 r2 h
def eT (f : U → U → Option Bool) (us ws : List U) (j : Nat) : Bool := decide (f (us.getD j .non) (ws.getD j .non) = some true)
theorem eT_get {f : U → U → Option Bool} {us ws : List U} {j : Nat} {u w : U} {b : Bool} (h1 : us[j]? = some u) (h2 : ws[j]? = some w) (h : f u w = some b) : eT f us ws j = b := by
  unfold eT
  rw [List.getD_eq_getElem?_getD, List.getD_eq_getElem?_getD, h1, h2, Option.getD_some, Option.getD_some, h]
  cases b <;> simp
theorem eT_all {f : U → U → Option Bool} : ∀ {us ws : List U} {b : Bool}, eqZ f us ws = some b → (List.range (min us.length ws.length)).all (eT f us ws) = b
  | us, ws, b, h => by
    cases b with
    | true =>
      rw [List.all_eq_true]
      intro j hj
      have hj := List.mem_range.mp hj
      have l1 : j < us.length := by omega
      have l2 : j < ws.length := by omega
      obtain ⟨c, h1, h2⟩ := eqZ_get h j us[j] ws[j] (List.getElem?_eq_getElem l1) (List.getElem?_eq_getElem l2)
      rw [eT_get (List.getElem?_eq_getElem l1) (List.getElem?_eq_getElem l2) h1, h2 rfl]
    | false =>
      cases q : (List.range (min us.length ws.length)).all (eT f us ws) with
      | false => rfl
      | true =>
        rw [List.all_eq_true] at q
        exact absurd (eqZ_all h fun j u v e1 e2 => by
          obtain ⟨c, h1, _⟩ := eqZ_get h j u v e1 e2
          have := q j (List.mem_range.mpr (by have := (List.getElem?_eq_some_iff.mp e1).1; have := (List.getElem?_eq_some_iff.mp e2).1; omega))
          rw [eT_get e1 e2 h1] at this
          rw [h1, this]) (by decide)
theorem items_at {f : U → U → Option Bool} {A : Around} {us ws : List U} {vs xs : List V} {its jts : List Value} {b : Bool} (r1 : Reps X.K W io H us vs) (r2 : Reps X.K W io H ws xs) (v1 : Vals vs its) (v2 : Vals xs jts)
    (ih : ∀ (u w : U) (x y : V) (v v' : Value) (b : Bool), Rep X.K W io H u x → Rep X.K W io H w y → RelV x v → RelV y v' → f u w = some b → SeqAt.EqAt A s v v' b) (h : eqZ f us ws = some b) :
    ∀ j (h1 : j < its.toArray.size) (h2 : j < jts.toArray.size), SeqAt.EqAt A s its.toArray[j] jts.toArray[j] (eT f us ws j) := by
  intro j h1 h2
  have l1 : j < its.length := by simpa using h1
  have l2 : j < jts.length := by simpa using h2
  have k1 : j < us.length := by rw [r1.length, v1.length]; exact l1
  have k2 : j < ws.length := by rw [r2.length, v2.length]; exact l2
  obtain ⟨c, q1, _⟩ := eqZ_get h j us[j] ws[j] (List.getElem?_eq_getElem k1) (List.getElem?_eq_getElem k2)
  obtain ⟨x, g1, p1⟩ := r1.get (List.getElem?_eq_getElem k1)
  obtain ⟨y, g2, p2⟩ := r2.get (List.getElem?_eq_getElem k2)
  obtain ⟨v, m1, n1⟩ := v1.get g1
  obtain ⟨v', m2, n2⟩ := v2.get g2
  rw [eT_get (List.getElem?_eq_getElem k1) (List.getElem?_eq_getElem k2) q1]
  have a1 : its.toArray[j] = v := by
    have := List.getElem?_eq_getElem l1
    rw [m1] at this
    simpa using (Option.some.inj this).symm
  have a2 : jts.toArray[j] = v' := by
    have := List.getElem?_eq_getElem l2
    rw [m2] at this
    simpa using (Option.some.inj this).symm
  rw [a1, a2]
  exact ih _ _ x y v v' c p1 p2 n1 n2 q1
/-- the seqs' part, for == and for != -/
structure Seqs (A : Around) (s : Shared) (f : Bool → Bool) (R : Value → Value → Bool → Prop) : Prop where
  tuples : ∀ {l b : Addr} {items items2 : Array Value} {e : Nat → Bool}, s.heap.IsTuple l items → s.heap.IsTuple b items2 → (∀ j (h1 : j < items.size) (h2 : j < items2.size), SeqAt.EqAt A.in1 s items[j] items2[j] (e j)) → R (.ref l) (.ref b) (f ((List.range (min items.size items2.size)).all e && items.size == items2.size))
  lists : ∀ {l b : Addr} {items items2 : Array Value} {e : Nat → Bool}, s.heap.IsList l items → s.heap.IsList b items2 → items.size = items2.size → (∀ j (h1 : j < items.size) (h2 : j < items2.size), SeqAt.EqAt A.in1 s items[j] items2[j] (e j)) → R (.ref l) (.ref b) (f ((List.range items.size).all e))
  lengths : ∀ {l b : Addr} {items items2 : Array Value}, s.heap.IsList l items → s.heap.IsList b items2 → (items.size != items2.size) = true → R (.ref l) (.ref b) (f false)
theorem seqs_rc {A : Around} (hu : A.units < cLine) : Seqs A s id (SeqAt.RcAt A s) := ⟨fun h1 h2 h => SeqAt.RcAt.tuples h1 h2 hu h, fun h1 h2 hz h => SeqAt.RcAt.lists h1 h2 hz hu h, fun h1 h2 hz => SeqAt.RcAt.lists_lengths h1 h2 hz hu⟩
theorem seqs_rn {A : Around} (hu : A.units < cLine) : Seqs A s Bool.not (SeqAt.RcNeAt A s) := ⟨fun h1 h2 h => SeqAt.RcNeAt.tuples h1 h2 hu h, fun h1 h2 hz h => SeqAt.RcNeAt.lists h1 h2 hz hu h, fun h1 h2 hz => SeqAt.RcNeAt.lists_lengths h1 h2 hz hu⟩
theorem eqF_step (I : Inv X pins sg H s) {n : Nat} {A : Around} {f : Bool → Bool} {R : Value → Value → Bool → Prop} (P : Pairs A s f R) (S : Seqs A s f R)
    (ih : ∀ (u w : U) (x y : V) (v v' : Value) (b : Bool), Rep X.K W io H u x → Rep X.K W io H w y → RelV x v → RelV y v' → eqF n u w = some b → SeqAt.EqAt A.in1 s v v' b)
    {u w : U} {x y : V} {v v' : Value} {b : Bool} (r1 : Rep X.K W io H u x) (r2 : Rep X.K W io H w y) (rv1 : RelV x v) (rv2 : RelV y v') (h : eqF (n + 1) u w = some b) : R v v' (f b) := by
  by_cases h1 : ∃ us vs, u = .tup us ∧ w = .tup vs
  · obtain ⟨us, ws, rfl, rfl⟩ := h1
    obtain ⟨a, vs, e1, l, p1⟩ := r1.tup'; subst e1
    obtain ⟨a', xs, e2, l2, p2⟩ := r2.tup'; subst e2
    cases (show v = Value.ref a from rv1)
    cases (show v' = Value.ref a' from rv2)
    obtain ⟨its, w1, t1, _⟩ := I.tuple l.sq
    obtain ⟨jts, w2, t2, _⟩ := I.tuple l2.sq
    unfold eqF at h
    cases q : eqZ (eqF n) us ws with
    | none => rw [q] at h; cases h
    | some c =>
      rw [q] at h; cases h
      have := S.tuples (e := eT (eqF n) us ws) t1 t2 (items_at p1 p2 w1 w2 ih q)
      rw [List.size_toArray, List.size_toArray, ← w1.length, ← w2.length, ← p1.length, ← p2.length, eT_all q] at this
      have e : (us.length == ws.length) = decide (us.length = ws.length) := by
        by_cases z : us.length = ws.length <;> simp [z]
      rw [e] at this
      exact this
  · by_cases h2 : ∃ us vs, u = .lst us ∧ w = .lst vs
    · obtain ⟨us, ws, rfl, rfl⟩ := h2
      obtain ⟨a, vs, e1, l, p1⟩ := r1.lst'; subst e1
      obtain ⟨a', xs, e2, l2, p2⟩ := r2.lst'; subst e2
      cases (show v = Value.ref a from rv1)
      cases (show v' = Value.ref a' from rv2)
      obtain ⟨its, w1, t1, _⟩ := I.list l.sq
      obtain ⟨jts, w2, t2, _⟩ := I.list l2.sq
      have z1 : its.toArray.size = us.length := by rw [List.size_toArray, ← w1.length, ← p1.length]
      have z2 : jts.toArray.size = ws.length := by rw [List.size_toArray, ← w2.length, ← p2.length]
      unfold eqF at h
      split at h
      · rename_i hz
        have := S.lists (e := eT (eqF n) us ws) t1.isList t2.isList (by rw [z1, z2, hz]) (items_at p1 p2 w1 w2 ih h)
        rw [z1] at this
        have e := eT_all h
        rw [← hz, Nat.min_self] at e
        rw [e] at this
        exact this
      · rename_i hz
        cases h
        exact S.lengths t1.isList t2.isList (by rw [z1, z2]; simpa using hz)
    · rw [eqF_mix n u w h1 h2] at h
      exact pairs_at I P u w r1 r2 rv1 rv2 h
theorem eqF_at (I : Inv X pins sg H s) : ∀ (n : Nat) (A : Around), A.units + n < cLine → ∀ (u w : U) (x y : V) (v v' : Value) (b : Bool), Rep X.K W io H u x → Rep X.K W io H w y → RelV x v → RelV y v' → eqF n u w = some b → SeqAt.EqAt A s v v' b
  | 0, _, _, _, _, _, _, _, _, _, _, _, _, _, h => by unfold eqF at h; cases h
  | n + 1, A, hu, u, w, x, y, v, v', b, r1, r2, rv1, rv2, h => by
    have ih := eqF_at I n A.in1 (by show A.units + 1 + n < cLine; omega)
    by_cases hx : (∃ a c, x = .ref a ∧ y = .ref c)
    · obtain ⟨a, c, rfl, rfl⟩ := hx
      cases (show v = Value.ref a from rv1)
      cases (show v' = Value.ref c from rv2)
      by_cases e : a = c
      · subst e
        rw [eqF_same I (n + 1) u w (.ref a) b r1 r2 h]
        exact SeqAt.EqAt.same _
      · exact SeqAt.EqAt.of_refs e (eqF_step I (pairs_rc (by omega)) (seqs_rc (by omega)) ih r1 r2 rv1 rv2 h)
    · rw [eqF_mix n u w (fun ⟨us, vs, e1, e2⟩ => hx (by
        subst e1; subst e2
        obtain ⟨a, _, z1, _⟩ := r1.tup'
        obtain ⟨c, _, z2, _⟩ := r2.tup'
        exact ⟨a, c, z1, z2⟩)) (fun ⟨us, vs, e1, e2⟩ => hx (by
        subst e1; subst e2
        obtain ⟨a, _, z1, _⟩ := r1.lst'
        obtain ⟨c, _, z2, _⟩ := r2.lst'
        exact ⟨a, c, z1, z2⟩))] at h
      exact pairs_at I (pairs_eq (by omega)) u w r1 r2 rv1 rv2 h
end
def eq2 (u v : U) : Option U := (eqF 60 u v).map U.bl
def ne2 (u v : U) : Option U := (eqF 60 u v).map fun b => U.bl (!b)
section
variable {X : Cx}
theorem o_eq (hu : X.A.units + 64 < cLine) : OpR X (compareOp .Eq) (P2 X.K eq2) := by
  intro pins s sg H x y v u Q I rx ry h
  obtain ⟨G, io, st, u1, u2, u3, ok, r1, r2, e, q⟩ := h
  unfold eq2 at e
  cases z : eqF 60 u1 u2 with
  | none => rw [z] at e; cases e
  | some b =>
    rw [z] at e; cases e
    exact eqF_step (n := 59) I (pairs_rc (by omega)) (seqs_rc (by omega)) (eqF_at I 59 X.A.in1 (by show X.A.units + 1 + 59 < cLine; omega)) r1 r2 rx ry z _ _ _ _ ⟨.bl b, H, I, rfl, q _ H (Same.refl H) (rBl _)⟩
theorem o_ne (hu : X.A.units + 64 < cLine) : OpR X (compareOp .NotEq) (P2 X.K ne2) := by
  intro pins s sg H x y v u Q I rx ry h
  obtain ⟨G, io, st, u1, u2, u3, ok, r1, r2, e, q⟩ := h
  unfold ne2 at e
  cases z : eqF 60 u1 u2 with
  | none => rw [z] at e; cases e
  | some b =>
    rw [z] at e; cases e
    exact eqF_step (n := 59) I (pairs_rn (by omega)) (seqs_rn (by omega)) (eqF_at I 59 X.A.in1 (by show X.A.units + 1 + 59 < cLine; omega)) r1 r2 rx ry z _ _ _ _ ⟨.bl (!b), H, I, rfl, q _ H (Same.refl H) (rBl _)⟩
end
end D
namespace D
open PySem L2
open AutoSeq1 (wpAny_loadPart')
/-- tuples, lists, dicts -/
def boxU : U → Bool
  | .tup _ => true
  | .lst _ => true
  | .dct _ _ => true
  | _ => false
def strU : U → Bool
  | .str _ => true
  | _ => false
end D
namespace D
open PySem L2
mutual
def pd : U → PyData
  | .non => .none
  | .bl b => .bool b
  | .int i => .int i
  | .str x => .str x
  | .tup us => .tuple (pds us)
  | .lst us => .list (pds us)
  | .dct _ _ => .dict []
  | .ref _ => .dict []
  | .ty _ => .dict []
  | .scr _ => .dict []
def pds : List U → List PyData
  | [] => []
  | u :: us => pd u :: pds us
end
def okD (u : U) : Bool := SeqAt.shaped (pd u)
def eqU (u v : U) : Bool := PyData.eqv (pd u) (pd v)
def is2 : U → U → Option U
  | .non, .non => some (.bl true)
  | .bl _, .non => some (.bl false)
  | .int _, .non => some (.bl false)
  | .str _, .non => some (.bl false)
  | .tup _, .non => some (.bl false)
  | .lst _, .non => some (.bl false)
  | .dct _ _, .non => some (.bl false)
  | .ref _, .non => some (.bl false)
  | .bl a, .bl b => some (.bl (decide (a = b)))
  | _, _ => none
def isnot2 : U → U → Option U
  | .non, .non => some (.bl false)
  | .bl _, .non => some (.bl true)
  | .int _, .non => some (.bl true)
  | .str _, .non => some (.bl true)
  | .tup _, .non => some (.bl true)
  | .lst _, .non => some (.bl true)
  | .dct _ _, .non => some (.bl true)
  | .ref _, .non => some (.bl true)
  | .bl a, .bl b => some (.bl (!decide (a = b)))
  | _, _ => none
def flatU : U → Bool
  | .non => true
  | .bl _ => true
  | .int _ => true
  | .str _ => true
  | _ => false
def in2 : U → U → Option U
  | .str x, .str y => if x.cps.size = 1 then some (.bl (decide (x.cps.getD 0 0 ∈ y.cps.toList))) else none
  | x, .tup ys => if flatU x && ys.all flatU then some (.bl (ys.any fun y => eqU y x)) else if boxU x && ys.all strU then some (.bl false) else none
  | x, .lst ys => if flatU x && ys.all flatU then some (.bl (ys.any fun y => eqU y x)) else if boxU x && ys.all strU then some (.bl false) else if okD x && okD (.lst ys) then some (.bl (ys.any fun y => eqU y x)) else none
  | _, _ => none
def nin2 : U → U → Option U
  | .str x, .str y => if x.cps.size = 1 then some (.bl (!decide (x.cps.getD 0 0 ∈ y.cps.toList))) else none
  | x, .tup ys => if flatU x && ys.all flatU then some (.bl (!ys.any fun y => eqU y x)) else if boxU x && ys.all strU then some (.bl true) else none
  | x, .lst ys => if flatU x && ys.all flatU then some (.bl (!ys.any fun y => eqU y x)) else if boxU x && ys.all strU then some (.bl true) else if okD x && okD (.lst ys) then some (.bl (!ys.any fun y => eqU y x)) else none
  | _, _ => none
def ix2 : U → U → Option U
  | .lst us, .int i => atI us i
  | .tup us, .int i => atI us i
  | .scr ns, .int i => (atI ns i).map U.int
  | .str x, .int i => if x.length ≤ sizeLine then (atI x.cps.toList i).map fun c => .str ⟨#[c]⟩ else none
  | _, _ => none
theorem atI_map {A B : Type} (f : A → B) {l : List A} {i : Int} {x : A} (h : atI l i = some x) : atI (l.map f) i = some (f x) := by
  unfold atI at h ⊢
  rw [List.length_map]
  cases q : ixN l.length i with
  | none => rw [q] at h; cases h
  | some j =>
    rw [q] at h
    have h : l[j]? = some x := h
    show (l.map f)[j]? = some (f x)
    rw [List.getElem?_map, h]; rfl
theorem atI_rep {K : PySem.W.Frag} {W : Addr → Prop} {io : List Addr} {H : Hp} {us : List U} {vs : List V} (r : Reps K W io H us vs) {i : Int} {u : U} (h : atI us i = some u) : ∃ v, atI vs i = some v ∧ Rep K W io H u v := by
  unfold atI at h ⊢
  rw [← r.length]
  cases q : ixN us.length i with
  | none => rw [q] at h; cases h
  | some j =>
    rw [q] at h
    obtain ⟨v, h1, h2⟩ := r.get (i := j) (u := u) h
    exact ⟨v, h1, h2⟩
section
variable {X : Cx} {xs : XS} {wx : WX} {pos : Pos}
theorem o_ix : IxR X (P2 X.K ix2) := by
  intro value slice pins s sg H x y v u Q I rx ry h hs
  obtain ⟨G, io, st, u1, u2, u3, ok, r1, r2, e, q⟩ := h
  unfold ix2 at e
  split at e
  · have e2 := r2.int'; subst e2
    obtain ⟨a, vs, rfl, l, rs⟩ := r1.lst'
    obtain ⟨w, h1, h2⟩ := atI_rep rs e
    exact ix_list value slice pins s sg H _ _ v u Q I rx ry ⟨a, vs, _, w, rfl, rfl, l.sq, h1, q _ H (Same.refl H) h2⟩ hs
  · have e2 := r2.int'; subst e2
    obtain ⟨a, vs, rfl, l, rs⟩ := r1.tup'
    obtain ⟨w, h1, h2⟩ := atI_rep rs e
    exact ix_tup value slice pins s sg H _ _ v u Q I rx ry ⟨a, vs, _, w, rfl, rfl, l.sq, h1, q _ H (Same.refl H) h2⟩ hs
  · have e2 := r2.int'; subst e2
    rw [Option.map_eq_some_iff] at e
    obtain ⟨n, hn, rfl⟩ := e
    unfold Rep at r1
    obtain ⟨a, rfl, l⟩ := r1
    have h1 := atI_map V.int hn
    exact ix_list value slice pins s sg H _ _ v u Q I rx ry ⟨a, _, _, _, rfl, rfl, l.sq, h1, q _ H (Same.refl H) (rInt _)⟩ hs
  · split at e
    · rename_i hz
      have e1 := r1.str'; have e2 := r2.int'; subst e1; subst e2
      rw [Option.map_eq_some_iff] at e
      obtain ⟨c, hc, rfl⟩ := e
      exact ix_str value slice pins s sg H _ _ v u Q I rx ry ⟨_, _, c, rfl, rfl, hz, hc, q _ H (Same.refl H) (rStr _)⟩ hs
    · cases e
  · cases e
theorem d_ix {a b : Expr} {f g : DE} (ha : PE X a (tD X.K xs wx f)) (hb : PE X b (tD X.K xs wx g)) (hs : PlainIx b) : PE X (.Subscript a b pos) (tD X.K xs wx (bin ix2 f g)) := pe_imp (pe_ix o_ix ha hb hs) fun _ _ _ h => bin_read h
def cutL {A : Type} (l : List A) (lo hi : Option Int) : List A := (l.drop (HT.sIx l.length 0 lo)).take (HT.sIx l.length l.length hi - HT.sIx l.length 0 lo)
def sl3 (u : U) (lo hi : Option Int) : Option U := match u with
  | .lst us => some (.lst (cutL us lo hi))
  | .tup us => some (.tup (cutL us lo hi))
  | .scr ns => some (.lst ((cutL ns lo hi).map U.int))
  | .str x => if x.length ≤ sizeLine then some (.str (cutS x lo hi)) else none
  | _ => none
abbrev DO := Env → Store → Rs (Option Int)
def noO : DO := fun _ st => .ok none st
def soO (f : DE) : DO := fun env st => (f env st).bind fun u st1 => match u with
  | .int i => .ok (some i) st1
  | _ => .bad
def slD (f : DE) (a b : DO) : DE := fun env st => (f env st).bind fun u st1 => (a env st1).bind fun lo st2 => (b env st2).bind fun hi st3 => Rs.of (sl3 u lo hi) st3
def tDO (K : PySem.W.Frag) (xs : XS) (wx : WX) (f : DO) : TO := fun sg H Q => ∃ G io st env, Ok K G io st H ∧ EnvRep K G io H env sg ∧
  Wants K G io H (fun _ _ H' o => Q o H') (XW xs wx sg) (f env st)
theorem po_imp {e : Option Expr} {t t' : TO} (h : PO X e t) (f : ∀ sg H Q, t' sg H Q → t sg H Q) : PO X e t' := ⟨fun pins s sg H Q I q => h.run pins s sg H Q I (f sg H Q q)⟩
theorem op_none : PO X none (tDO X.K xs wx noO) := po_imp po_none fun sg H Q h => by
  obtain ⟨G, io, st, env, ok, er, w⟩ := h
  exact w.here ok
theorem op_some {e : Expr} {f : DE} (h : PE X e (tD X.K xs wx f)) : PO X (some e) (tDO X.K xs wx (soO f)) := po_imp (po_some h) fun sg H Q q => by
  obtain ⟨G, io, st, env, ok, er, w⟩ := q
  refine ⟨G, io, st, env, ok, er, w.bind.impR fun st1 io1 H1 u ok1 e1 w1 v rv => ?_⟩
  cases u with
  | int i => exact ⟨i, rv.int', w1.here ok1⟩
  | _ => exact w1.elim
def P3 (K : PySem.W.Frag) : V → Option Int → Option Int → Hp → VK → Prop := fun x lo hi H Q => ∃ G io st u1 u, Ok K G io st H ∧ Rep K (Wf G io) io H u1 x ∧ sl3 u1 lo hi = some u ∧ ∀ v H', Same H H' → Rep K (Wf G io) io H' u v → Q v H'
theorem o_sl : SlR X (P3 X.K) := by
  intro pins s sg H x v vl vu lo hi sl Q I rx hs pl pu h
  obtain ⟨G, io, st, u1, u3, ok, r1, e, q⟩ := h
  unfold sl3 at e
  split at e
  · cases e
    obtain ⟨a, vs, rfl, l, rs⟩ := r1.lst'
    refine sl_list pins s sg H _ v vl vu lo hi sl Q I rx hs pl pu ⟨a, vs, rfl, l.sq, fun p hp => q _ _ (same_upd hp) (ok.newL hp ?_)⟩
    unfold cutL cutV
    rw [rs.length]
    exact (rs.drop _).take _
  · cases e
    obtain ⟨a, vs, rfl, l, rs⟩ := r1.tup'
    refine sl_tupA pins s sg H _ v vl vu lo hi sl Q I rx hs pl pu ⟨a, vs, rfl, l.sq, fun w => q _ H (Same.refl H) ?_, fun _ p hp => q _ _ (same_upd hp) (ok.newT hp ?_)⟩
    · unfold cutL
      rw [rs.length, w.1, w.2, List.drop_zero, Nat.sub_zero, ← rs.length, List.take_length]
      exact rTup l rs
    · unfold cutL cutV
      rw [rs.length]
      exact (rs.drop _).take _
  · cases e
    unfold Rep at r1
    obtain ⟨a, rfl, l⟩ := r1
    refine sl_list pins s sg H _ v vl vu lo hi sl Q I rx hs pl pu ⟨a, _, rfl, l.sq, fun p hp => q _ _ (same_upd hp) (ok.newL hp ?_)⟩
    unfold cutL cutV
    rw [List.length_map, List.map_take, List.map_drop]
    exact ((Reps.ints _).drop _).take _
  · split at e
    · rename_i hz
      cases e; have e1 := r1.str'; subst e1
      exact sl_str pins s sg H _ v vl vu lo hi sl Q I rx hs pl pu ⟨_, rfl, hz, q _ H (Same.refl H) (rStr _)⟩
    · cases e
  · cases e
theorem d_slice {e : Expr} {lo hi : Option Expr} {p2 : Pos} {f : DE} {a b : DO} (he : PE X e (tD X.K xs wx f)) (hl : PO X lo (tDO X.K xs wx a)) (hu : PO X hi (tDO X.K xs wx b)) : PE X (.Subscript e (.Slice lo hi none p2) pos) (tD X.K xs wx (slD f a b)) :=
  pe_imp (pe_slice o_sl he hl hu) fun sg H Q h => by
    obtain ⟨G, io, st, env, ok, er, w⟩ := h
    refine ⟨G, io, st, env, ok, er, w.bind.impR fun st1 io1 H1 u ok1 e1 w1 v rv => ?_⟩
    refine ⟨G, io1, st1, env, ok1, er.ext ok.dj e1, w1.bind.impR fun st2 io2 H2 l ok2 e2 w2 => ?_⟩
    refine ⟨G, io2, st2, env, ok2, (er.ext ok.dj e1).ext ok1.dj e2, w2.bind.impR fun st3 io3 H3 h ok3 e3 w3 => ?_⟩
    obtain ⟨r, hr, w4⟩ := w3.pure
    exact ⟨G, io3, st3, u, r, ok3, (rv.ext e2).ext e3, hr, fun v' H' s r' => w4.hereS ok3 s v' r'⟩
end
end D
namespace D
open PySem L2
def lenN : List U → Option U
  | [.lst us] => some (.int us.length)
  | [.tup us] => some (.int us.length)
  | [.scr us] => some (.int us.length)
  | [.str x] => if x.length ≤ sizeLine then some (.int x.length) else none
  | _ => none
def tyU : U → Option String
  | .non => some "NoneType"
  | .bl _ => some "bool"
  | .int _ => some "int"
  | .str _ => some "str"
  | .tup _ => some "tuple"
  | .lst _ => some "list"
  | .dct _ _ => some "dict"
  | .scr _ => some "list"
  | _ => none
def isB (a b : String) : Bool := a == b || (a == "bool" && b == "int")
def tyNames : List String := ["str", "int", "bool", "tuple", "list", "dict"]
theorem isB_ok : ∀ a ∈ ["NoneType", "bool", "int", "str", "tuple", "list", "dict"], ∀ b ∈ tyNames, kitB a b = some (isB a b) := by decide +kernel
def isiN : List U → Option U
  | [u, .ty c] => if c ∈ tyNames then (tyU u).map fun t => .bl (isB t c) else none
  | _ => none
theorem tyU_mem {u : U} {t : String} (h : tyU u = some t) : t ∈ ["NoneType", "bool", "int", "str", "tuple", "list", "dict"] := by
  cases u <;> first | (cases h; decide) | cases h
def maxN : List U → Option U
  | [.int i, .int j] => some (.int (if j > i then j else i))
  | _ => none
def minN : List U → Option U
  | [.int i, .int j] => some (.int (if j < i then j else i))
  | _ => none
def intsU : List U → Option (List Int)
  | [] => some []
  | .int b :: us => (intsU us).map (b :: ·)
  | _ => none
def strsU : List U → Option (List Str)
  | [] => some []
  | .str b :: us => (strsU us).map (b :: ·)
  | _ => none
theorem strs_eq : ∀ {us : List U} {bs : List Str}, strsU us = some bs → us = bs.map U.str
  | [], _, h => by cases h; rfl
  | .str b :: us, _, h => by
    unfold strsU at h
    rw [Option.map_eq_some_iff] at h
    obtain ⟨r, h1, rfl⟩ := h
    rw [strs_eq h1]; rfl
  | .non :: _, _, h => by unfold strsU at h; cases h
  | .bl _ :: _, _, h => by unfold strsU at h; cases h
  | .int _ :: _, _, h => by unfold strsU at h; cases h
  | .tup _ :: _, _, h => by unfold strsU at h; cases h
  | .lst _ :: _, _, h => by unfold strsU at h; cases h
  | .dct _ _ :: _, _, h => by unfold strsU at h; cases h
  | .ref _ :: _, _, h => by unfold strsU at h; cases h
  | .ty _ :: _, _, h => by unfold strsU at h; cases h
  | .scr _ :: _, _, h => by unfold strsU at h; cases h
theorem strs_map (bs : List Str) : strsU (bs.map U.str) = some bs := by
  induction bs with
  | nil => rfl
  | cons b bs ih => rw [List.map_cons]; unfold strsU; rw [ih]; rfl
def tupN : List U → Option U
  | [.lst us] => some (.tup us)
  | [.tup us] => some (.tup us)
  | _ => none
def intN : List U → Option U
  | [.int i] => some (.int i)
  | [.bl k] => some (.int (if k then 1 else 0))
  | _ => none
section
variable {K : PySem.W.Frag} {W : Addr → Prop} {io : List Addr} {H : Hp}
theorem Reps.one {u : U} {vs : List V} (h : Reps K W io H [u] vs) : ∃ v, vs = [v] ∧ Rep K W io H u v := by
  obtain ⟨v, r, rfl, q, t⟩ := h.uncons
  rw [t.isNil]; exact ⟨v, rfl, q⟩
theorem Reps.two {u w : U} {vs : List V} (h : Reps K W io H [u, w] vs) : ∃ v x, vs = [v, x] ∧ Rep K W io H u v ∧ Rep K W io H w x := by
  obtain ⟨v, r, rfl, q, t⟩ := h.uncons
  obtain ⟨x, rfl, q'⟩ := t.one
  exact ⟨v, x, rfl, q, q'⟩
theorem Rep.scr' {ns : List Int} {v : V} (h : Rep K W io H (.scr ns) v) : ∃ a, v = .ref a ∧ LS K W H a (ns.map V.int) := by unfold Rep at h; exact h
theorem Rep.dct' {ks us : List U} {v : V} (h : Rep K W io H (.dct ks us) v) : ∃ a vs, v = .ref a ∧ LD W H a ks vs ∧ Reps K W io H us vs := by unfold Rep at h; exact h
theorem Rep.ty' {n : String} {v : V} (h : Rep K W io H (.ty n) v) : v = .ty n := by unfold Rep at h; exact h
theorem tyX {u : U} {v : V} {t : String} (h : Rep K W io H u v) (e : tyU u = some t) : TyX K H v (.type t) := by
  cases u with
  | non => cases e; rw [h.non']; exact .base .non
  | bl b => cases e; rw [h.bl']; exact .base (.bl b)
  | int b => cases e; rw [h.int']; exact .base (.int b)
  | str b => cases e; rw [h.str']; exact .base (.str b)
  | tup us =>
    cases e
    obtain ⟨a, vs, rfl, l, _⟩ := h.tup'
    rcases l with ⟨l | ⟨o, l⟩, _⟩ | ⟨o, its, n, l, c, _⟩
    · exact .base (.tup l)
    · exact .fTuple l
    · exact .kTuple l c
  | lst us =>
    cases e
    obtain ⟨a, vs, rfl, l, _⟩ := h.lst'
    exact .base (.lst l.1)
  | dct ks us =>
    cases e
    obtain ⟨a, vs, rfl, ⟨_, ⟨kvs, l | ⟨o, l⟩, _⟩ | ⟨kvs, l, _⟩⟩, _⟩ := h.dct'
    · exact .base (.dK l)
    · exact .fDict l
    · exact .base (.dT l)
  | scr ns =>
    cases e
    obtain ⟨a, rfl, l⟩ := h.scr'
    rcases l with ⟨l | ⟨o, l⟩, _⟩ | ⟨o, its, n, l, c, _⟩
    · exact .base (.lst l)
    · exact .base (.frz l)
    · exact .kList l c
  | _ => cases e
end
section
variable {X : Cx}
theorem c_len : CallR X (.builtin "len") (PN X.K lenN) := by
  intro pins s sg H vs us Q I r h
  obtain ⟨G, io, st, ws, u, ok, rs, e, q⟩ := h
  unfold lenN at e
  split at e
  · cases e
    obtain ⟨v, rfl, rv⟩ := rs.one
    obtain ⟨a, xs, rfl, l, r'⟩ := rv.lst'
    exact call_len_seq pins s sg H _ us Q I r ⟨a, xs, rfl, .inl l.sq, q _ H (Same.refl H) (by rw [r'.length]; exact rInt _)⟩
  · cases e
    obtain ⟨v, rfl, rv⟩ := rs.one
    obtain ⟨a, xs, rfl, l, r'⟩ := rv.tup'
    exact call_len_seq pins s sg H _ us Q I r ⟨a, xs, rfl, .inr l.sq, q _ H (Same.refl H) (by rw [r'.length]; exact rInt _)⟩
  · cases e
    obtain ⟨v, rfl, rv⟩ := rs.one
    obtain ⟨a, rfl, l⟩ := rv.scr'
    exact call_len_seq pins s sg H _ us Q I r ⟨a, _, rfl, .inl l.sq, q _ H (Same.refl H) (by rw [List.length_map]; exact rInt _)⟩
  · split at e
    · rename_i hz
      cases e
      obtain ⟨v, rfl, rv⟩ := rs.one
      have e1 := rv.str'; subst e1
      exact call_len_str pins s sg H _ us Q I r ⟨_, rfl, hz, q _ H (Same.refl H) (rInt _)⟩
    · cases e
  · cases e
theorem c_isi : CallR X (.builtin "isinstance") (PN X.K isiN) := by
  intro pins s sg H vs us Q I r h
  obtain ⟨G, io, st, ws, u, ok, rs, e, q⟩ := h
  unfold isiN at e
  split at e
  · rename_i w c
    split at e
    · rename_i hc
      rw [Option.map_eq_some_iff] at e
      obtain ⟨t, ht, rfl⟩ := e
      obtain ⟨v, x, rfl, rv, rx⟩ := rs.two
      have e1 := rx.ty'; subst e1
      exact call_isi pins s sg H _ us Q I r ⟨v, .ty c, .type t, .type c, isB t c, rfl, .ty c, tyX rv ht, kit_ty (isB_ok t (tyU_mem ht) c hc), q _ H (Same.refl H) (rBl _)⟩
    · cases e
  · cases e
theorem c_max (hc : X.calm = true) : CallR X (.builtin "max") (PN X.K maxN) := by
  intro pins s sg H vs us Q I r h
  obtain ⟨G, io, st, ws, u, ok, rs, e, q⟩ := h
  unfold maxN at e
  split at e
  · cases e
    obtain ⟨v, x, rfl, rv, rx⟩ := rs.two
    have e1 := rv.int'; have e2 := rx.int'; subst e1; subst e2
    exact call_max2 hc pins s sg H _ us Q I r ⟨_, _, rfl, q _ H (Same.refl H) (rInt _)⟩
  · cases e
theorem c_min (hc : X.calm = true) : CallR X (.builtin "min") (PN X.K minN) := by
  intro pins s sg H vs us Q I r h
  obtain ⟨G, io, st, ws, u, ok, rs, e, q⟩ := h
  unfold minN at e
  split at e
  · cases e
    obtain ⟨v, x, rfl, rv, rx⟩ := rs.two
    have e1 := rv.int'; have e2 := rx.int'; subst e1; subst e2
    exact call_min2 hc pins s sg H _ us Q I r ⟨_, _, rfl, q _ H (Same.refl H) (rInt _)⟩
  · cases e
theorem c_int : CallR X (.type "int") (PN X.K intN) := by
  intro pins s sg H vs us Q I r h
  obtain ⟨G, io, st, ws, u, ok, rs, e, q⟩ := h
  unfold intN at e
  split at e
  · cases e
    obtain ⟨v, rfl, rv⟩ := rs.one
    have e1 := rv.int'; subst e1
    exact call_int1 pins s sg H _ us Q I r (.inl ⟨_, rfl, q _ H (Same.refl H) (rInt _)⟩)
  · cases e
    obtain ⟨v, rfl, rv⟩ := rs.one
    have e1 := rv.bl'; subst e1
    exact call_int1 pins s sg H _ us Q I r (.inr ⟨_, rfl, q _ H (Same.refl H) (rInt _)⟩)
  · cases e
/-- list(x): a new one -/
def lstL : List U → Option (List U)
  | [.lst us] => some us
  | [.tup us] => some us
  | [.scr ns] => some (ns.map U.int)
  | _ => none
variable {xs : XS} {wx : WX} {pos : Pos}
theorem l_list {x : Str} {p : Pos} {e : Expr} {es : List Expr} {f : DA} (hx : x = "list") (hg : Gl X x) (hm : X.mg x = none) (ha : PA X (e :: es) (tDA X.K xs wx f)) (he : starEach (e :: es) X.env = (false, eval e X.env) :: starEach es X.env := by rfl) (hpl : (backTo pos (starEach es X.env)).any (·.1) = false := by rfl) :
    PE X (.Call (.Name x p) (e :: es) [] pos) (tDL X.K xs wx (itA lstL f)) := by
  subst hx
  refine pe_imp (pe_callTy call_list_of hg hm (by decide +kernel) ha (by decide) (by decide) he hpl) fun sg H Q h => ?_
  obtain ⟨G, io, st, env, ok, er, w⟩ := h
  refine ⟨G, io, st, env, ok, er, w.bind.impR fun st1 io1 H1 us ok1 e1 w1 vs rvs => ?_⟩
  obtain ⟨ws, hu, w2⟩ := w1.pure
  unfold lstL at hu
  split at hu
  · cases hu
    obtain ⟨v, rfl, rv⟩ := rvs.one
    obtain ⟨a, xs, rfl, l, r'⟩ := rv.lst'
    exact ⟨a, xs, rfl, .inl l.sq, fun p hp => w2.here ok1 xs p r' hp⟩
  · cases hu
    obtain ⟨v, rfl, rv⟩ := rvs.one
    obtain ⟨a, xs, rfl, l, r'⟩ := rv.tup'
    exact ⟨a, xs, rfl, .inr l.sq, fun p hp => w2.here ok1 xs p r' hp⟩
  · cases hu
    obtain ⟨v, rfl, rv⟩ := rvs.one
    obtain ⟨a, rfl, l⟩ := rv.scr'
    exact ⟨a, _, rfl, .inl l.sq, fun p hp => w2.here ok1 _ p (Reps.ints _) hp⟩
  · cases hu
end
end D
namespace D
open PySem L2
structure Fn (P : Program) (w : World) (K : PySem.W.Frag) (mg : Str → Option Value) (base : Heap) (xs : XS) (x : Str) (k n : Nat) (g : List U → Store → Rs U) : Prop where
  ex : ∃ f fd ps, mg x = some (.ref f) ∧ PySem.W.keepIn K (.ref f) = true ∧ Binds K fd ps [] ∧ FnOk P w K mg base (L2.CX P w) k f fd ps (spD K xs n g)
  bad : ∀ us st, us.length ≠ n → g us st = .bad
theorem Fn.imp {P : Program} {w : World} {K : PySem.W.Frag} {mg : Str → Option Value} {base : Heap} {xs : XS} {x : Str} {k n : Nat} {g g' : List U → Store → Rs U} (h : Fn P w K mg base xs x k n g) (e : ∀ us st, g' us st ≠ .bad → g us st = g' us st) (hb : ∀ us st, us.length ≠ n → g' us st = .bad) : Fn P w K mg base xs x k n g' := by
  obtain ⟨⟨f, fd, ps, h1, h2, h3, h4⟩, h5⟩ := h
  refine ⟨⟨f, fd, ps, h1, h2, h3, h4.imp fun vs H Q E q => ?_⟩, hb⟩
  obtain ⟨hl, G, io, st, us, ok, r, w⟩ := q
  refine ⟨hl, G, io, st, us, ok, r, ?_⟩
  rw [e us st (Rs.of_bad w)]
  exact w
section
variable {X : Cx} {xs : XS} {wx : WX} {pos : Pos}
theorem d_callF {k n : Nat} {x : Str} {p : Pos} {e : Expr} {es : List Expr} {g : List U → Store → Rs U} {fa : DA} (F : Fn X.prog X.w X.K X.mg X.base xs x k n g) (tk : Takes X wx) (hr : Room k X.A) (hg : Gl X x)
    (ha : PA X (e :: es) (tDA X.K xs wx fa)) (hdb : (x == ("__debug__" : Str)) = false := by decide)
    (he : starEach (e :: es) X.env = (false, eval e X.env) :: starEach es X.env := by rfl) (hpl : (backTo pos (starEach es X.env)).any (·.1) = false := by rfl) : PE X (.Call (.Name x p) (e :: es) [] pos) (tD X.K xs wx (appU g fa)) := by
  obtain ⟨⟨f, fd, ps, h1, h2, h3, h4⟩, h5⟩ := F
  exact d_call tk h4 hr hg h1 h2 h3 h5 ha hdb he hpl
theorem hvs_N {i : Nat} {vs : List Nat} (h : i ∈ vs) : ∀ u l, tgN i u = some l → ∀ p ∈ l, p.1 ∈ vs := fun u l e p hp => by
  cases e
  have : p = (i, u) := by simpa using hp
  subst this; exact h
theorem d_ty {x : Str} {n : String} {p : Pos} (hg : Gl X x) (hm : X.mg x = none) (hv : bootBuiltins x = some (.type n)) (hn : x ≠ "__name__" := by decide) (hd : (x == ("__debug__" : Str)) = false := by decide) : PE X (.Name x p) (tD X.K xs wx (cst (.ty n))) :=
  d_cst (pe_bltn hg hm hv (v := .ty n) rfl hn hd) fun _ _ _ => by unfold Rep; rfl
def neg1D (f : DE) : DE := fun env st => (f env st).bind fun u st1 => Rs.of (neg1 u) st1
theorem d_neg {a : Expr} {f : DE} (h : PE X a (tD X.K xs wx f)) : PE X (.UnaryOp .USub a pos) (tD X.K xs wx (neg1D f)) := pe_imp (pe_un un_neg h) fun sg H Q q => by
  obtain ⟨G, io, st, env, ok, er, w⟩ := q
  refine ⟨G, io, st, env, ok, er, w.bind.impR fun st1 io1 H1 u ok1 e1 w1 v rv => ?_⟩
  cases u with
  | int i => exact ⟨i, rv.int', Wants.here (a := U.int (-i)) w1 ok1 _ (rInt _)⟩
  | _ => exact w1.elim
def kOf : U → Option Key
  | .int i => some (.inl i)
  | .str x => some (.inr x)
  | _ => none
def putG {A : Type} (kvs : List (Key × A)) (k : Key) (v : A) : List (Key × A) := if (kvs.any fun kv => decide (kv.1 = k)) = true then kvs.map (fun kv => if kv.1 = k then (kv.1, v) else kv) else kvs ++ [(k, v)]
def mergeG {A : Type} (kvs more : List (Key × A)) : List (Key × A) := more.foldl (fun acc kv => putG acc kv.1 kv.2) kvs
def mkD (kvs : List (Key × U)) : U := .dct (kvs.map fun p => kU p.1) (kvs.map (·.2))
def keyed : List (U × U) → Option (List (Key × U))
  | [] => some []
  | p :: r => match kOf p.1, keyed r with
    | some k, some l => some ((k, p.2) :: l)
    | _, _ => none
def dispU (l : List (U × U)) : Option U := (keyed l).bind fun kvs => if kvs.length ≤ 15 then some (mkD (mergeG [] kvs)) else none
def pairsE : List (DE × DE) → Env → Store → Rs (List (U × U))
  | [], _, st => .ok [] st
  | p :: r, env, st => (p.1 env st).bind fun k st1 => (p.2 env st1).bind fun v st2 => (pairsE r env st2).bind fun l st3 => .ok ((k, v) :: l) st3
def dispD (ps : List (DE × DE)) : DE := fun env st => (noEx (pairsE ps env st)).bind fun l st1 => Rs.of (dispU l) st1
/-- keyed values -/
def KR (K : PySem.W.Frag) (W : Addr → Prop) (io : List Addr) (H : Hp) : List (Key × U) → List (Key × V) → Prop := Paired fun p q => p.1 = q.1 ∧ Rep K W io H p.2 q.2
section
variable {K : PySem.W.Frag} {W : Addr → Prop} {io : List Addr} {H : Hp}
theorem KR.any {k : Key} : ∀ {a : List (Key × U)} {b : List (Key × V)}, KR K W io H a b → (a.any fun kv => decide (kv.1 = k)) = (b.any fun kv => decide (kv.1 = k))
  | _, _, .nil => rfl
  | _, _, .cons h t => by rw [List.any_cons, List.any_cons, KR.any t, h.1]
theorem KR.app : ∀ {a a' : List (Key × U)} {b b' : List (Key × V)}, KR K W io H a b → KR K W io H a' b' → KR K W io H (a ++ a') (b ++ b')
  | _, _, _, _, .nil, h => h
  | _, _, _, _, .cons h t, h' => .cons h (KR.app t h')
theorem KR.upd {k : Key} {u : U} {v : V} (r : Rep K W io H u v) : ∀ {a : List (Key × U)} {b : List (Key × V)}, KR K W io H a b → KR K W io H (a.map (fun kv => if kv.1 = k then (kv.1, u) else kv)) (b.map (fun kv => if kv.1 = k then (kv.1, v) else kv))
  | _, _, .nil => .nil
  | _, _, .cons h t => by
    rw [List.map_cons, List.map_cons]
    refine .cons ?_ (KR.upd r t)
    obtain ⟨h1, h2⟩ := h
    rw [h1]
    split
    · exact ⟨rfl, r⟩
    · exact ⟨h1, h2⟩
theorem KR.put {a : List (Key × U)} {b : List (Key × V)} (h : KR K W io H a b) {k : Key} {u : U} {v : V} (r : Rep K W io H u v) : KR K W io H (putG a k u) (putK b k v) := by
  unfold putG putK
  rw [h.any]
  split
  · exact h.upd r
  · exact h.app (.cons ⟨rfl, r⟩ .nil)
theorem KR.merge : ∀ {m : List (Key × U)} {n : List (Key × V)} {a : List (Key × U)} {b : List (Key × V)}, KR K W io H m n → KR K W io H a b → KR K W io H (mergeG a m) (mergeK b n)
  | _, _, _, _, .nil, h => h
  | _, _, a, b, .cons (a := p) (b := q) h t, h' => by
    have e := h'.put (k := p.1) h.2
    have e2 : KR K W io H (putG a p.1 p.2) (putK b q.1 q.2) := by rw [← h.1]; exact e
    show KR K W io H (mergeG (putG a p.1 p.2) _) (mergeK (putK b q.1 q.2) _)
    exact KR.merge t e2
theorem KR.keys : ∀ {a : List (Key × U)} {b : List (Key × V)}, KR K W io H a b → (a.map fun p => kU p.1) = (b.map fun p => kU p.1)
  | _, _, .nil => rfl
  | _, _, .cons h t => by rw [List.map_cons, List.map_cons, KR.keys t, h.1]
theorem KR.vals : ∀ {a : List (Key × U)} {b : List (Key × V)}, KR K W io H a b → Reps K W io H (a.map (·.2)) (b.map (·.2))
  | _, _, .nil => .nil
  | _, _, .cons h t => .cons h.2 (KR.vals t)
theorem KR.len : ∀ {a : List (Key × U)} {b : List (Key × V)}, KR K W io H a b → a.length = b.length
  | _, _, .nil => rfl
  | _, _, .cons _ t => by simp [KR.len t]
theorem Ok.newD {G : Addr → Prop} {st : Store} (ok : Ok K G io st H) {p : Addr} (hp : H p = none) {us : List (Key × U)} {vs : List (Key × V)} (r : KR K (Wf G io) io H us vs) : Rep K (Wf G io) io (L2.upd H p (.dK vs)) (mkD us) (.ref p) := by
  unfold mkD Rep
  exact ⟨p, vs.map (·.2), rfl, ⟨ok.fresh hp, .inl ⟨vs, .inl upd_same, r.keys, rfl⟩⟩, r.vals.ext (Ext.same (same_upd hp))⟩
theorem kOf_rep {u : U} {v : V} {k : Key} (h : Rep K W io H u v) (e : kOf u = some k) : v = kV k := by
  cases u with
  | int i => cases e; rw [h.int']; rfl
  | str i => cases e; rw [h.str']; rfl
  | _ => cases e
end
end
end D
namespace D
open PySem L2
theorem bt_len : bootBuiltins "len" = some (.builtin "len") := by decide +kernel
theorem bt_isinstance : bootBuiltins "isinstance" = some (.builtin "isinstance") := by decide +kernel
theorem bt_max : bootBuiltins "max" = some (.builtin "max") := by decide +kernel
theorem bt_min : bootBuiltins "min" = some (.builtin "min") := by decide +kernel
theorem bt_sorted : bootBuiltins "sorted" = some (.builtin "sorted") := by decide +kernel
theorem bt_tuple : bootBuiltins "tuple" = some (.type "tuple") := by decide +kernel
theorem bt_int : bootBuiltins "int" = some (.type "int") := by decide +kernel
theorem bt_dict : bootBuiltins "dict" = some (.type "dict") := by decide +kernel
section
variable {X : Cx} {xs : XS} {wx : WX} {pos : Pos}
theorem dv (i : Nat) {x : Str} (hN : X.N[i]? = some x := by rfl) (hv : Vis X.env.scope x := by first | exact Or.inl rfl | exact Or.inr (Or.inl rfl) | exact Or.inr (Or.inr rfl)) (hd : (x == ("__debug__" : Str)) = false := by decide) (hcd : (x == ("__classdict__" : Str)) = false := by decide) :
    PE X (.Name x pos) (tD X.K xs wx (var i)) := d_var i hN hv hd hcd
theorem gn (i : Nat) {x : Str} (hN : X.N.Nodup) (hi : X.N[i]? = some x := by rfl) (hx : Loc X.env.scope x := by first | exact Or.inl rfl | exact Or.inr rfl) (hf : X.fn x = true ∨ X.env.scope.names.lookup x = some .local := by first | exact .inl rfl | exact .inr rfl) : PG X (.Name x pos) (gD X.K (tgN i)) := g_name hN hi hx hf
theorem gc {x : Str} {p : Pos} (i : Nat) {es : List Expr} {is : List Nat} (t : GNames X es is) (hi : X.N[i]? = some x := by rfl) (hx : Loc X.env.scope x := by first | exact Or.inl rfl | exact Or.inr rfl) (hf : X.fn x = true ∨ X.env.scope.names.lookup x = some .local := by first | exact .inl rfl | exact .inr rfl) : GNames X (.Name x p :: es) (i :: is) := .cons hi hx hf t
theorem sset (i : Nat) {x : Str} {e : Expr} {f : DE} {pos' : Pos} (hN : X.N.Nodup) (he : PE X e (tD X.K xs wx f)) (hi : X.N[i]? = some x := by rfl) (hx : Loc X.env.scope x := by first | exact Or.inl rfl | exact Or.inr rfl) (hs : swapsWith e (some (.Name x pos')) pos.line X.env = Pure.pure false := by rfl)
    (hf : X.fn x = true ∨ X.env.scope.names.lookup x = some .local := by first | exact .inl rfl | exact .inr rfl) : PS X (.Assign [.Name x pos'] e pos) (tDS X.K xs wx (sSet i f)) := s_set hN hi hx he hs hf
theorem sown (i : Nat) {x : Str} {e : Expr} {f : DL} {pos' : Pos} (hN : X.N.Nodup) (he : PE X e (tDL X.K xs wx f)) (hi : X.N[i]? = some x := by rfl) (hx : Loc X.env.scope x := by first | exact Or.inl rfl | exact Or.inr rfl) (hs : swapsWith e (some (.Name x pos')) pos.line X.env = Pure.pure false := by rfl)
    (hf : X.fn x = true ∨ X.env.scope.names.lookup x = some .local := by first | exact .inl rfl | exact .inr rfl) : PS X (.Assign [.Name x pos'] e pos) (tDS X.K xs wx (sOwn i f)) := s_own hN hi hx he hs hf
theorem sapp (i : Nat) {x : Str} {e : Expr} {f : DE} {p1 p2 : Pos} (he : PE X e (tD X.K xs wx f)) (hN : X.N[i]? = some x := by rfl) (hv : Vis X.env.scope x := by first | exact Or.inl rfl | exact Or.inr (Or.inl rfl) | exact Or.inr (Or.inr rfl)) (hd : (x == ("__debug__" : Str)) = false := by decide) (hcd : (x == ("__classdict__" : Str)) = false := by decide)
    (hfew : ((backTo pos (starEach [e] X.env)).all (fun x => !x.1) && (backToKw pos (keywordEach [] X.env)).all (fun x => x.1.isSome) && decide ([e].length + ([] : List Keyword).length + (if ([] : List Keyword).isEmpty then 0 else 1) < 30)) = true := by rfl)
    (hline : (p1.endLine == pos.line) = true := by rfl) (hs : starEach (e :: []) X.env = (false, eval e X.env) :: starEach [] X.env := by rfl) (hplain : (backTo pos (starEach [] X.env)).any (·.1) = false := by rfl)
    (hsw : swapsWith (.Call (.Attribute (.Name x p2) "append" p1) [e] [] pos) none pos.line X.env = Pure.pure false := by rfl) {pos2 : Pos} :
    PS X (.Expr (.Call (.Attribute (.Name x p2) "append" p1) [e] [] pos) pos2) (tDS X.K xs wx (sApp i f)) := s_app hN hv he hd hcd hfew hline hs hplain hsw
/-- a list of the frame's own is never written from here on -/
def frz1 (s : Sl) : Sl := match s with
  | .own us => .val (.lst us)
  | s => s
def frzE (i : Nat) (env : Env) : Env := match env[i]? with
  | some s => env.set i (frz1 s)
  | none => env
def frzS (i : Nat) (f : DS) : DS := fun env st => f (frzE i env) st
theorem Fr.freeze {K : PySem.W.Frag} {F : Addr → Prop} {io : List Addr} {st : Store} {env : Env} {sg : L2.St} {H : Hp} (f : Fr K F io st env sg H) (i : Nat) : Fr K F io st (frzE i env) sg H ∧ ExtO io H (Ow env sg) io H (Ow (frzE i env) sg) := by
  unfold frzE
  split
  case h_2 => exact ⟨f, ExtO.refl _ _ _⟩
  rename_i s hs
  have hi : i < env.length := (List.getElem?_eq_some_iff.mp hs).1
  cases s with
  | un =>
    have e : env.set i (frz1 .un) = env := by
      apply List.ext_getElem?
      intro j
      by_cases hj : i = j
      · subst hj; rw [List.getElem?_set_self hi, hs]; rfl
      · rw [List.getElem?_set_ne hj]
    rw [e]; exact ⟨f, ExtO.refl _ _ _⟩
  | val u =>
    have e : env.set i (frz1 (.val u)) = env := by
      apply List.ext_getElem?
      intro j
      by_cases hj : i = j
      · subst hj; rw [List.getElem?_set_self hi, hs]; rfl
      · rw [List.getElem?_set_ne hj]
    rw [e]; exact ⟨f, ExtO.refl _ _ _⟩
  | own us =>
    obtain ⟨a, vs, e1, e2, r⟩ := f.slot hs
    have ow : ∀ b, Ow (env.set i (.val (.lst us))) sg b → Ow env sg b ∧ b ≠ a := fun b ⟨j, ws, h1, h2⟩ => by
      by_cases hj : i = j
      · subst hj; rw [List.getElem?_set_self hi] at h1; cases h1
      · rw [List.getElem?_set_ne hj] at h1
        refine ⟨⟨j, ws, h1, h2⟩, fun e => hj ?_⟩
        subst e
        exact f.dd i j b us ws hs h1 e1 h2
    have ex : ExtO io H (Ow env sg) io H (Ow (env.set i (.val (.lst us))) sg) := ⟨⟨[], by simp, fun _ h => nomatch h⟩, fun _ _ _ _ h => h, fun _ o h => ⟨o, h⟩, fun b h => .inl (ow b h).1⟩
    have m := ex.mono (F := F)
    have oa : Ow env sg a := ⟨i, us, hs, e1⟩
    refine ⟨⟨f.ok.mono fun b h => h.imp id fun z => (ow b z).1, ⟨by simp [f.er.len], fun j s o h1 h2 => ?_⟩, fun b h => f.nF b (ow b h).1, fun j k b us1 us2 h1 h2 h3 h4 => ?_⟩, ex⟩
    · by_cases hj : i = j
      · subst hj
        rw [List.getElem?_set_self hi] at h1
        rw [e1] at h2
        cases h1; cases h2
        refine ⟨.ref a, rfl, ?_⟩
        unfold Rep
        refine ⟨a, vs, rfl, ⟨e2, ?_⟩, r.mono m⟩
        rintro ((z | z) | z)
        · exact f.nF a oa z
        · exact (ow a z).2 rfl
        · exact f.ok.dj a z (.inr oa)
      · have g1 := h1
        rw [List.getElem?_set_ne hj] at h1
        have q := f.er.sl j s o h1 h2
        cases s with
        | un => trivial
        | val u' => obtain ⟨v', q1, q2⟩ := q; exact ⟨v', q1, q2.mono m⟩
        | own ws =>
          obtain ⟨b, vs1, q1, q2, q3, q4⟩ := q
          subst q1
          exact ⟨b, vs1, rfl, .inr ⟨j, ws, g1, h2⟩, q3, q4.mono m⟩
    · have back : ∀ (j : Nat) (w : List U), (env.set i (.val (.lst us)))[j]? = some (.own w) → env[j]? = some (.own w) := fun j w h => by
        by_cases hj : i = j
        · subst hj; rw [List.getElem?_set_self hi] at h; cases h
        · rw [List.getElem?_set_ne hj] at h; exact h
      exact f.dd j k b us1 us2 (back j us1 h1) (back k us2 h2) h3 h4
theorem s_frz (i : Nat) {s : Stmt} {f : DS} (h : PS X s (tDS X.K xs wx f)) : PS X s (tDS X.K xs wx (frzS i f)) := ps_imp h fun D sg H q => by
  obtain ⟨F, io, st, env, fr, w⟩ := q
  obtain ⟨f1, e1⟩ := fr.freeze i
  exact ⟨F, io, st, frzE i env, f1, WantsS.later w e1⟩
end
theorem fn_mk {P : Program} {w : World} {K : PySem.W.Frag} {mg : Str → Option Value} {base : Heap} {xs : XS} {x : Str} {s : Stmt} {k n m : Nat} {body : DS} {h : Heap} (XK : K.In h) (G : h.Ns mainGlobals mg) {f : Addr} {od an : Option Addr} {sl : Array (Option Value)} {oc kV dc pm cd ct : Value} {N ps : List Str}
    (a : PySem.W.nsIn K mainGlobals x = some (some (.ref f))) (l : K.lookup f = some ⟨oc, od, .func (PySem.W.fnOf x x (defArgs s) (defBody s) (defScope s) .none kV dc pm an cd ct), sl⟩) (c : PySem.W.codeIn K cd x = true) (kp : PySem.W.keepIn K (.ref f) = true)
    (S : FnScope N ps (defScope s)) (hb : ∀ (us : List Value), us.length = ps.length → bindArgs (PySem.W.fnOf x x (defArgs s) (defBody s) (defScope s) .none kV dc pm an cd ct) ⟨us, []⟩ = Pure.pure (ps.zip us)) (hn : ps.length = n) (hm : N.length = m)
    (B : ∀ f fd, Fun K x x s f fd → FnOk P w K mg base (L2.CX P w) k f fd ps (spD K xs ps.length (runB N.length ps.length body))) : Fn P w K mg base xs x k n (runB m n body) := by
  subst hn; subst hm
  have F := fun_mk (st := s) l c kp
  exact ⟨⟨f, _, ps, PySem.W.mg_of XK G a, kp, .all hb, B f _ F⟩, fun us st h => runB_bad us st h⟩
end D
namespace D
open PySem L2
end D
namespace D
open PySem L2
section
variable {K : PySem.W.Frag} {F : Addr → Prop} {io : List Addr} {st : Store} {env : Env} {sg : L2.St} {H : Hp}
theorem Fr.alloc (f : Fr K F io st env sg H) {a : Addr} {o : HO} {ob : Ob} (na : H a = none) (hx : NX o) (new : ObRep K (Wf (Gs F env sg) (io ++ [a])) (io ++ [a]) (upd H a o) a ob) :
    Fr K F (io ++ [a]) (st ++ [ob]) env sg (upd H a o) ∧ Ext io H (io ++ [a]) (upd H a o) := by
  have nW : ¬ Wf (Gs F env sg) io a := f.ok.fresh na
  have s : Same H (upd H a o) := same_upd na
  have ex : Ext io H (io ++ [a]) (upd H a o) := ⟨⟨[a], rfl, fun b hb => by rw [List.mem_singleton] at hb; rw [hb]; exact na⟩, fun b u _ h => s b u h, fun b u h => ⟨u, s b u h⟩⟩
  have ok : Ok K (Gs F env sg) (io ++ [a]) (st ++ [ob]) (upd H a o) := by
    refine ⟨?_, fun b hb z => ?_, fun b hb => ?_, by simp [f.ok.len], fun n ob' b e1 e2 => ?_⟩
    · rw [List.nodup_append]
      refine ⟨f.ok.nd, by simp, fun x hx y hy e => ?_⟩
      rw [List.mem_singleton] at hy
      subst hy; subst e
      exact nW (.inr hx)
    · rcases List.mem_append.mp hb with h | h
      · exact f.ok.dj b h z
      · rw [List.mem_singleton] at h; subst h
        exact nW (.inl z)
    · by_cases e : b = a
      · subst e; exact ⟨o, upd_same, hx⟩
      · have hb' : Wf (Gs F env sg) io b := hb.imp id fun z => by
          rcases List.mem_append.mp z with h | h
          · exact h
          · exact (e (List.mem_singleton.mp h)).elim
        obtain ⟨u, q, x⟩ := f.ok.trk b hb'
        exact ⟨u, s b u q, x⟩
    · by_cases hn : n < io.length
      · rw [List.getElem?_append_left hn] at e2
        rw [List.getElem?_append_left (by rw [f.ok.len]; exact hn)] at e1
        exact (f.ok.obs n ob' b e1 e2).mono ex.mono (fun u q => s b u q) fun dd ws q => s _ _ q
      · rw [List.getElem?_append_right (Nat.le_of_not_lt hn)] at e2
        rw [List.getElem?_append_right (by rw [f.ok.len]; exact Nat.le_of_not_lt hn)] at e1
        rw [f.ok.len] at e1
        have h0 : n - io.length = 0 := by
          cases h : n - io.length with
          | zero => rfl
          | succ k => rw [h] at e2; simp at e2
        rw [h0] at e1 e2
        simp only [List.getElem?_cons_zero, Option.some.injEq] at e1 e2
        subst e1; subst e2
        exact new
  exact ⟨f.ext ok ex, ex⟩
end
def tabB (l : List (Str × Bool)) (c : Str) : Option Bool := l.lookup c
def sTryK (t : List (Str × Bool)) (i j : Nat) (b : DS) : DS := fun env st => match b env st with
  | .ex c fs env' st' => match tabB t c with
    | some true => .nx (((env'.set i (.val (.ref st'.length))).set j (.val (.ref st'.length))).set i .un) (st' ++ [.ins c fs])
    | some false => .ex c fs env' st'
    | none => .bad
  | o => o
end D
namespace D
open PySem L2
/-- no exception at all -/
def noXS : XS := fun _ _ _ _ _ => False
theorem law_sp {K : PySem.W.Frag} {xs : XS} {H : Hp} {a : Addr} {ns : List Int} {f : List U → Store → Rs U} (hS : SqL K H a (ns.map V.int)) (h : ∃ st', f [.scr ns] [] = .ok (.bl true) st') : spD K xs 1 f [.ref a] H (fun v _ => v = .bl true) fun _ _ _ => False := by
  obtain ⟨st', e⟩ := h
  refine ⟨rfl, fun _ => False, [], [], [.scr ns], ⟨List.nodup_nil, fun _ h => (nomatch h), fun a h => h.elim False.elim (fun z => nomatch z), rfl, fun n ob a h => nomatch h⟩, .cons ?_ .nil, ?_⟩
  · unfold Rep
    exact ⟨a, rfl, hS.imp (fun x => ⟨x, fun z => z.elim id fun z => nomatch z⟩) id⟩
  · rw [e]
    exact fun io' H' _ _ v hv => hv.bl'
theorem cx_no {P : Program} {w : World} {outer : List PySem.Env} {H : Hp} {s : Shared} {e : Value} {s' : Shared} (h : L2.CX P w outer H s (fun _ _ _ => False) e s') : False := by
  obtain ⟨_, _, _, _, _, _, _, _, _, _, _, _, z⟩ := h
  exact z
end D
namespace D
open PySem L2
section
variable {A B : Type}
@[simp] theorem bind_ok (a : A) (st : Store) (k : A → Store → Rs B) : (Rs.ok a st).bind k = k a st := (rfl)
@[simp] theorem bind_ex (c : Str) (us : List (Str × U)) (st : Store) (k : A → Store → Rs B) : (Rs.ex c us st : Rs A).bind k = .ex c us st := (rfl)
@[simp] theorem bind_bad (k : A → Store → Rs B) : (Rs.bad : Rs A).bind k = .bad := (rfl)
@[simp] theorem of_some (a : A) (st : Store) : Rs.of (some a) st = .ok a st := (rfl)
@[simp] theorem of_none (st : Store) : Rs.of (none : Option A) st = .bad := (rfl)
@[simp] theorem out_ok (a : A) (st : Store) (env : Env) (k : A → Store → Out) : (Rs.ok a st).out env k = k a st := (rfl)
@[simp] theorem out_ex (c : Str) (us : List (Str × U)) (st : Store) (env : Env) (k : A → Store → Out) : (Rs.ex c us st : Rs A).out env k = .ex c us env st := (rfl)
@[simp] theorem out_bad (env : Env) (k : A → Store → Out) : (Rs.bad : Rs A).out env k = .bad := (rfl)
@[simp] theorem noEx_ok (a : A) (st : Store) : noEx (Rs.ok a st) = .ok a st := (rfl)
@[simp] theorem noEx_bad : noEx (Rs.bad : Rs A) = .bad := (rfl)
@[simp] theorem seq_nx (env : Env) (st : Store) (k : Env → Store → Out) : (Out.nx env st).seq k = k env st := (rfl)
@[simp] theorem seq_rt (u : U) (st : Store) (k : Env → Store → Out) : (Out.rt u st).seq k = .rt u st := (rfl)
@[simp] theorem seq_bk (env : Env) (st : Store) (k : Env → Store → Out) : (Out.bk env st).seq k = .bk env st := (rfl)
@[simp] theorem seq_ct (env : Env) (st : Store) (k : Env → Store → Out) : (Out.ct env st).seq k = .ct env st := (rfl)
@[simp] theorem seq_ex (c : Str) (us : List (Str × U)) (env : Env) (st : Store) (k : Env → Store → Out) : (Out.ex c us env st).seq k = .ex c us env st := (rfl)
@[simp] theorem seq_bad (k : Env → Store → Out) : Out.bad.seq k = .bad := (rfl)
@[simp] theorem fin_rt (u : U) (st : Store) : fin (.rt u st) = .ok u st := (rfl)
@[simp] theorem fin_nx (env : Env) (st : Store) : fin (.nx env st) = .ok .non st := (rfl)
@[simp] theorem fin_ex (c : Str) (us : List (Str × U)) (env : Env) (st : Store) : fin (.ex c us env st) = .ex c us st := (rfl)
@[simp] theorem fin_bad : fin .bad = .bad := (rfl)
end
section
variable (env : Env) (st : Store)
@[simp] theorem cst_ap (u : U) : cst u env st = .ok u st := (rfl)
@[simp] theorem var_zero (u : U) (e : Env) : var 0 (.val u :: e) st = .ok u st := (rfl)
@[simp] theorem var_succ (i : Nat) (s : Sl) (e : Env) : var (i + 1) (s :: e) st = var i e st := (rfl)
@[simp] theorem bin_ap (g : U → U → Option U) (a b : DE) : bin g a b env st = (a env st).bind fun u st1 => (b env st1).bind fun v st2 => Rs.of (g u v) st2 := (rfl)
@[simp] theorem anil_ap : anil env st = .ok [] st := (rfl)
@[simp] theorem acons_ap (a : DE) (b : DA) : acons a b env st = (a env st).bind fun u st1 => (b env st1).bind fun us st2 => .ok (u :: us) st2 := (rfl)
@[simp] theorem appN_ap (g : List U → Option U) (a : DA) : appN g a env st = (a env st).bind fun us st1 => Rs.of (g us) st1 := (rfl)
@[simp] theorem appU_ap (g : List U → Store → Rs U) (a : DA) : appU g a env st = (a env st).bind fun us st1 => g us st1 := (rfl)
@[simp] theorem tst_ap (a : DE) : tst a env st = (a env st).bind fun u st1 => match u with
  | .bl b => .ok b st1
  | _ => .bad := (rfl)
@[simp] theorem andT_ap (a b : DT) : andT a b env st = (a env st).bind fun c st1 => if c = true then b env st1 else .ok false st1 := (rfl)
@[simp] theorem orT_ap (a b : DT) : orT a b env st = (a env st).bind fun c st1 => if c = true then .ok true st1 else b env st1 := (rfl)
@[simp] theorem notT_ap (a : DT) : notT a env st = (a env st).bind fun c st1 => .ok (!c) st1 := (rfl)
@[simp] theorem yesT_ap : yesT env st = .ok true st := (rfl)
@[simp] theorem chain_ap (g h : U → U → Option U) (a b c : DE) : chain g h a b c env st = (a env st).bind fun u st1 => (b env st1).bind fun v st2 => match g u v with
  | some (.bl k) => if k = true then (c env st2).bind fun w st3 => Rs.of (h v w) st3 else .ok (.bl false) st2
  | _ => .bad := (rfl)
@[simp] theorem andV_ap (a b : DE) : andV a b env st = (a env st).bind fun u st1 => match u with
  | .bl c => if c = true then b env st1 else .ok (.bl false) st1
  | _ => .bad := (rfl)
@[simp] theorem orV_ap (a b : DE) : orV a b env st = (a env st).bind fun u st1 => match u with
  | .bl c => if c = true then .ok (.bl true) st1 else b env st1
  | _ => .bad := (rfl)
@[simp] theorem notV_ap (a : DE) : notV a env st = (a env st).bind fun u st1 => match u with
  | .bl c => .ok (.bl (!c)) st1
  | _ => .bad := (rfl)
@[simp] theorem ifE_ap (c : DT) (a b : DE) : ifE c a b env st = (c env st).bind fun t st1 => if t = true then a env st1 else b env st1 := (rfl)
@[simp] theorem neg1D_ap (a : DE) : neg1D a env st = (a env st).bind fun u st1 => Rs.of (neg1 u) st1 := (rfl)
@[simp] theorem newL_ap (f : DL) : newL f env st = (f env st).bind fun us st1 => .ok (.lst us) st1 := (rfl)
@[simp] theorem szDL_ap (f : DA) : szDL f env st = (f env st).bind fun us st1 => if us.length ≤ sizeLine then .ok us st1 else .bad := (rfl)
@[simp] theorem itemsD_ap (f : DE) : itemsD f env st = (f env st).bind fun u st1 => Rs.of (items u) st1 := (rfl)
@[simp] theorem itA_ap (g : List U → Option (List U)) (f : DA) : itA g f env st = (f env st).bind fun us st1 => Rs.of (g us) st1 := (rfl)
@[simp] theorem compD_ap (f : DL) (vs : List Nat) (t : Tg) (c : DT) (e : DE) : compD f vs t c e env st = (f env st).bind fun us st1 => if us.length ≤ sizeLine then noEx (compL t c e us (wipeE env vs) st1) else .bad := (rfl)
@[simp] theorem noO_ap : noO env st = .ok none st := (rfl)
@[simp] theorem soO_ap (f : DE) : soO f env st = (f env st).bind fun u st1 => match u with
  | .int i => .ok (some i) st1
  | _ => .bad := (rfl)
@[simp] theorem slD_ap (f : DE) (a b : DO) : slD f a b env st = (f env st).bind fun u st1 => (a env st1).bind fun lo st2 => (b env st2).bind fun hi st3 => Rs.of (sl3 u lo hi) st3 := (rfl)
@[simp] theorem dispD_ap (ps : List (DE × DE)) : dispD ps env st = (noEx (pairsE ps env st)).bind fun l st1 => Rs.of (dispU l) st1 := (rfl)
@[simp] theorem sNil_ap : sNil env st = .nx env st := (rfl)
@[simp] theorem sSeq_ap (f g : DS) : sSeq f g env st = (f env st).seq g := (rfl)
@[simp] theorem sExpr_ap (f : DE) : sExpr f env st = (f env st).out env fun _ st1 => .nx env st1 := (rfl)
@[simp] theorem sRet_ap (f : DE) : sRet f env st = (f env st).out env fun u st1 => .rt u st1 := (rfl)
@[simp] theorem sIf_ap (c : DT) (f g : DS) : sIf c f g env st = (c env st).out env fun b st1 => if b = true then f env st1 else g env st1 := (rfl)
@[simp] theorem sSet_ap (i : Nat) (f : DE) : sSet i f env st = (f env st).out env fun u st1 => .nx (env.set i (.val u)) st1 := (rfl)
@[simp] theorem sOwn_ap (i : Nat) (f : DL) : sOwn i f env st = (f env st).out env fun us st1 => if i < env.length then .nx (env.set i (.own us)) st1 else .bad := (rfl)
@[simp] theorem sApp_ap (i : Nat) (f : DE) : sApp i f env st = match env[i]? with
  | some (.own us) => (f env st).out env fun u st1 => if us.length < sizeLine then .nx (env.set i (.own (us ++ [u]))) st1 else .bad
  | _ => .bad := (rfl)
@[simp] theorem frzS_ap (i : Nat) (f : DS) : frzS i f env st = f (frzE i env) st := (rfl)
@[simp] theorem sFor_ap (f : DL) (t : Tg) (b : DS) : sFor f t b env st = (f env st).out env fun us st1 => forL t b us env st1 := (rfl)
@[simp] theorem setE_nil : setE env [] = env := (rfl)
@[simp] theorem setE_cons (p : Nat × U) (l : List (Nat × U)) : setE env (p :: l) = setE (env.set p.1 (.val p.2)) l := (rfl)
@[simp] theorem tgN_ap (i : Nat) (u : U) : tgN i u = some [(i, u)] := (rfl)
end
@[simp] theorem runB_ap (m n : Nat) (body : DS) (us : List U) (st : Store) : runB m n body us st = if us.length = n then fin (body (env0 m us) st) else .bad := (rfl)
@[simp] theorem env0_ap (m : Nat) (us : List U) : env0 m us = us.map Sl.val ++ List.replicate (m - us.length) .un := (rfl)
@[simp] theorem sizeLine_val : sizeLine = 16777216 := by decide +kernel
theorem comp_nil (t : Tg) (c : DT) (e : DE) (env : Env) (st : Store) : compL t c e [] env st = .ok [] st := (rfl)
theorem comp_cons (t : Tg) (c : DT) (e : DE) (u : U) (us : List U) (env : Env) (st : Store) : compL t c e (u :: us) env st = match t u with
    | none => .bad
    | some l => (c (setE env l) st).bind fun b st1 => if b = true then (e (setE env l) st1).bind fun v st2 => (compL t c e us env st2).bind fun r st3 => .ok (v :: r) st3 else compL t c e us env st1 := (rfl)
theorem comp_allM {T : Type} {t : Tg} {e : DE} {env : Env} {st : Store} {f g : T → U} : ∀ (l : List T), (∀ c ∈ l, ∃ a, t (f c) = some a ∧ e (setE env a) st = .ok (g c) st) → compL t yesT e (l.map f) env st = .ok (l.map g) st
  | [], _ => rfl
  | c :: l, h => by
    obtain ⟨a, h1, h2⟩ := h c List.mem_cons_self
    have ih := comp_allM l fun x hx => h x (List.mem_cons_of_mem _ hx)
    rw [List.map_cons, comp_cons, h1]
    simp only [yesT_ap, bind_ok, if_true, h2, ih, List.map_cons]
theorem for_cons (t : Tg) (b : DS) (u : U) (us : List U) (env : Env) (st : Store) : forL t b (u :: us) env st = match t u with
    | none => .bad
    | some l => match b (setE env l) st with
      | .nx env2 st2 => forL t b us env2 st2
      | .ct env2 st2 => forL t b us env2 st2
      | .bk env2 st2 => .nx env2 st2
      | .rt u st2 => .rt u st2
      | .ex c us env2 st2 => .ex c us env2 st2
      | .bad => .bad := rfl
end D
namespace D
open PySem L2
theorem eqU_str (x y : Str) : eqU (.str x) (.str y) = decide (x = y) := by
  unfold eqU pd PyData.eqv
  by_cases h : x = y
  · subst h; simp
  · rw [decide_eq_false h]; exact beq_eq_false_iff_ne.mpr h
theorem atI_at {A : Type} {l : List A} {k : Nat} {x : A} (h : l[k]? = some x) : atI l (k : Int) = some x := atI_nat h
end D
namespace C
open PySem L2 D
theorem smallI_of {i : Int} (h1 : -18446744073709551616 < i) (h2 : i < 18446744073709551616) : smallI i = true := by
  unfold smallI
  exact decide_eq_true ⟨by omega, by omega⟩
theorem rng1_nat (n : Nat) (h : n ≤ 1000000) : rng1 [.int (n : Int)] = some ((List.range n).map fun i => U.int (i : Nat)) := by
  unfold rng1
  dsimp only
  rw [if_pos ⟨by omega, by omega⟩, Int.toNat_natCast]
end C
namespace D
open PySem L2
section
variable {X : Cx} {xs : XS} {wx : WX} {pos : Pos} {tg : Expr}
def itE (g : U → Option (List U)) (f : DE) : DL := fun env st => (f env st).bind fun u st1 => Rs.of (g u) st1
def rev1 : U → Option (List U)
  | .lst us => some us.reverse
  | .tup us => some us.reverse
  | _ => none
end
end D
namespace D
open PySem L2
section
variable {X : Cx} {xs : XS} {wx : WX} {pos : Pos}
def ap1 (g : U → Option U) (f : DE) : DE := fun env st => (f env st).bind fun u st1 => Rs.of (g u) st1
def back1 : U → Option U
  | .lst us => some (.lst us.reverse)
  | .tup us => some (.tup us.reverse)
  | .scr ns => some (.scr ns.reverse)
  | _ => none
theorem Reps.reverse {K : PySem.W.Frag} {W : Addr → Prop} {io : List Addr} {H : Hp} : ∀ {us : List U} {vs : List V}, Reps K W io H us vs → Reps K W io H us.reverse vs.reverse
  | [], _, h => by rw [h.isNil]; exact .nil
  | u :: us, _, h => by
    obtain ⟨v, r, rfl, q, t⟩ := h.uncons
    rw [List.reverse_cons, List.reverse_cons]
    exact t.reverse.append (.cons q .nil)
end
@[simp] theorem ap1_ap (g : U → Option U) (f : DE) (env : Env) (st : Store) : ap1 g f env st = (f env st).bind fun u st1 => Rs.of (g u) st1 := (rfl)
@[simp] theorem itE_ap (g : U → Option (List U)) (f : DE) (env : Env) (st : Store) : itE g f env st = (f env st).bind fun u st1 => Rs.of (g u) st1 := (rfl)
end D
namespace D
open PySem L2
@[simp] theorem tgT2_ap (i j : Nat) (a b : U) : tgT [i, j] (.tup [a, b]) = some [(i, a), (j, b)] := by
  unfold tgT
  rfl
@[simp] theorem tgT3_ap (i j k : Nat) (a b c : U) : tgT [i, j, k] (.tup [a, b, c]) = some [(i, a), (j, b), (k, c)] := by
  unfold tgT
  rfl
end D
namespace C
open PySem L2 D
def letters : List Nat := (Str.ofString "abcdefghijklmnopqrstuvwxyz").cps.toList
def isWordS (x : Str) : Bool := decide (1 ≤ x.length) && decide (x.length ≤ 8) && x.cps.toList.all (fun c => decide (c ∈ letters))
def wordU : U → Bool
  | .str x => isWordS x
  | _ => false
def ltU : U → U → Bool
  | .str x, .str y => ltC x y
  | _, _ => false
def leafAt (us : List U) (k : Nat) : Bool := wordU (us.getD k .non) && (decide (k = 0) || ltU (us.getD (k - 1) .non) (us.getD k .non))
def areL : U → Bool
  | .tup us => decide (us.length ≤ 8) && (List.range us.length).all (leafAt us)
  | _ => false
theorem ix_tup {us : List U} {k : Nat} {u : U} (h : us[k]? = some u) : ix2 (.tup us) (.int (k : Int)) = some u := atI_at h
end C
namespace D
open PySem L2 PySem.Spec PyProof.Rows
abbrev SKd (P : Program) (w : World) : PySem.KeyKind P w Str := PySem.strKind P w
def GoodT (P : Program) (w : World) (e : Int × Value) : Prop := ∃ x tk, e.2 = Value.str x tk ∧ e.1 = (SKd P w).hash x
def txtOf (e : Int × Value) : Str := match e.2 with
  | .str x _ => x
  | _ => Str.empty
/-- a set of just these texts lies at a -/
def SetS (P : Program) (w : World) (h : Heap) (a : Addr) (L : List Str) : Prop :=
  ∃ o es ep t, h.get? a = some o ∧ o.ExactSet ∧ o.data = .set es ep t ∧ (∀ e ∈ es.toList, GoodT P w e) ∧ (es.toList.map txtOf).Perm L ∧ L.Nodup ∧ es.size < scanBound ∧ t.fits es.size = true ∧ Ris t.place.toList ∧
    (w.params.followText "set-order" = true ∨ t.led = true)
section
variable {P : Program} {w : World} {h h' : Heap} {a : Addr} {L : List Str}
theorem SetS.at (R : SetS P w h a L) (k : ∀ o, h.get? a = some o → h'.get? a = some o) : SetS P w h' a L := by
  obtain ⟨o, es, ep, t, ho, r⟩ := R
  exact ⟨o, es, ep, t, k o ho, r⟩
end
section
variable {P : Program} {w : World} {A : Around} {E : Value → Shared → Prop} {s : Shared} {a : Addr} {L : List Str}
/-- what is there when x was added -/
def plusS (L : List Str) (x : Str) : List Str := if x ∈ L then L else x :: L
end
end D
namespace D
open PySem L2 PySem.Spec PyProof.Rows
end D
namespace D
open PySem L2 PySem.Spec PyProof.Rows
end D
namespace D
open PySem L2
theorem ltCps_eq : ∀ a b : List Nat, PySem.Spec.ltCps a b = decide (a < b)
  | [], [] => by simp [PySem.Spec.ltCps]
  | [], _ :: _ => by simp [PySem.Spec.ltCps]
  | _ :: _, [] => by simp [PySem.Spec.ltCps]
  | a :: r, b :: t => by
    unfold PySem.Spec.ltCps
    rw [ltCps_eq r t]
    simp only [List.cons_lt_cons_iff, Bool.decide_or, Bool.decide_and]
    rfl
def leS (x y : Str) : Prop := x.cps.toList ≤ y.cps.toList
theorem leS_iff (x y : Str) : leS x y ↔ ltC y x = false := by
  unfold leS ltC
  rw [decide_eq_false_iff_not, List.not_lt]
theorem leS_anti {x y : Str} (h1 : leS x y) (h2 : leS y x) : x = y := by
  have := List.le_antisymm h1 h2
  cases x with | mk a => cases y with | mk b =>
    congr 1
    exact Array.toList_inj.mp this
theorem leS_total (x y : Str) : leS x y ∨ leS y x := List.le_total _ _
theorem leS_trans {x y z : Str} (h1 : leS x y) (h2 : leS y z) : leS x z := List.le_trans h1 h2
def insS (x : Str) : List Str → List Str
  | [] => [x]
  | y :: r => if ltC y x then y :: insS x r else x :: y :: r
def sortS : List Str → List Str
  | [] => []
  | x :: r => insS x (sortS r)
def dedS : List Str → List Str
  | [] => []
  | x :: r => plusS (dedS r) x
theorem ins_perm (x : Str) : ∀ l, (insS x l).Perm (x :: l)
  | [] => .refl _
  | y :: r => by
    unfold insS
    split
    · exact ((ins_perm x r).cons y).trans (.swap x y r)
    · exact .refl _
theorem sort_perm : ∀ l, (sortS l).Perm l
  | [] => .refl _
  | x :: r => (ins_perm x _).trans ((sort_perm r).cons x)
theorem ins_sorted (x : Str) : ∀ l, l.Pairwise leS → (insS x l).Pairwise leS
  | [], _ => by unfold insS; exact List.pairwise_singleton _ _
  | y :: r, h => by
    obtain ⟨h1, h2⟩ := List.pairwise_cons.mp h
    unfold insS
    split
    · rename_i hlt
      refine List.pairwise_cons.mpr ⟨fun z hz => ?_, ins_sorted x r h2⟩
      rcases List.mem_cons.mp ((ins_perm x r).mem_iff.mp hz) with e | e
      · subst e
        rcases leS_total y z with q | q
        · exact q
        · rw [leS_iff, hlt] at q; cases q
      · exact h1 z e
    · rename_i hlt
      have hxy : leS x y := (leS_iff x y).mpr (by simpa using hlt)
      refine List.pairwise_cons.mpr ⟨fun z hz => ?_, h⟩
      rcases List.mem_cons.mp hz with e | e
      · subst e; exact hxy
      · exact leS_trans hxy (h1 z e)
theorem sort_sorted : ∀ l, (sortS l).Pairwise leS
  | [] => List.Pairwise.nil
  | x :: r => ins_sorted x _ (sort_sorted r)
theorem rising_pw : ∀ (l : List Str) (x : Str), PyProof.Rows.risingS x l = true → (x :: l).Pairwise leS
  | [], x, _ => List.pairwise_singleton _ _
  | y :: r, x, h => by
    unfold PyProof.Rows.risingS at h
    rw [Bool.and_eq_true, ltCps_eq] at h
    have ih := rising_pw r y h.2
    have hxy : leS x y := (leS_iff x y).mpr (by have := h.1; unfold ltC; simpa using this)
    refine List.pairwise_cons.mpr ⟨fun z hz => ?_, ih⟩
    rcases List.mem_cons.mp hz with e | e
    · subst e; exact hxy
    · exact leS_trans hxy ((List.pairwise_cons.mp ih).1 z e)
theorem sortedS_pw : ∀ (l : List Str), PyProof.Rows.sortedS l = true → l.Pairwise leS
  | [], _ => List.Pairwise.nil
  | x :: r, h => rising_pw r x h
theorem sort_unique {ys L : List Str} (h1 : PyProof.Rows.sortedS ys = true) (h2 : ys.Perm L) : ys = sortS L :=
  List.Perm.eq_of_pairwise (fun _ _ _ _ p q => leS_anti p q) (sortedS_pw ys h1) (sort_sorted L) (h2.trans (sort_perm L).symm)
def txts : U → Option (List Str)
  | .lst us => strsU us
  | .tup us => strsU us
  | _ => none
section
variable {X : Cx} {xs : XS} {wx : WX} {pos : Pos}
theorem txts_rep {K : PySem.W.Frag} {W : Addr → Prop} {io : List Addr} {H : Hp} {u : U} {v : V} {ys : List Str} (r : Rep K W io H u v) (h : txts u = some ys) : ∃ l, v = .ref l ∧ (SqL K H l (ys.map V.str) ∨ SqT K H l (ys.map V.str)) := by
  unfold txts at h
  split at h
  · rename_i us
    rw [strs_eq h] at r
    obtain ⟨a, vs, rfl, l, rs⟩ := r.lst'
    rw [Reps.ofStrs rs] at l
    exact ⟨a, rfl, .inl l.sq⟩
  · rename_i us
    rw [strs_eq h] at r
    obtain ⟨a, vs, rfl, l, rs⟩ := r.tup'
    rw [Reps.ofStrs rs] at l
    exact ⟨a, rfl, .inr l.sq⟩
  · cases h
end
end D
namespace D
open PySem L2
def sUnp (t : Tg) (f : DE) : DS := fun env st => (f env st).out env fun u st1 => match t u with
  | none => .bad
  | some l => .nx (setE env l) st1
section
variable {X : Cx} {xs : XS} {wx : WX} {pos : Pos}
theorem s_unp {tg e : Expr} {f : DE} {t : Tg} (he : PE X e (tD X.K xs wx f)) (hg : PG X tg (gD X.K t)) (hm : (assignEach [tg] X.env).map (·.2) = [assign tg X.env] := by rfl)
    (hs : swapsWithSole [tg] e pos.line X.env = Pure.pure false := by rfl) (hw : swappedStores [tg] e X.env = Pure.pure none := by rfl) : PS X (.Assign [tg] e pos) (tDS X.K xs wx (sUnp t f)) := by
  refine ⟨fun pins s sg H D I h => ?_⟩
  obtain ⟨F, io, st, env, fr, w⟩ := h
  refine wpAny_Assign_stores (thn (he.run pins s sg H (fun v H1 => gD X.K t v sg H1 fun sg2 H2 => D.nx sg2 H2) I ?_) fun v s1 ⟨x, H1, I1, r1, q1⟩ => ?_) hs hw
  · refine ⟨Gs F env sg, io, st, env, fr.ok, fr.er, (WantsS.expr fr w).impR fun st1 io1 H1 u ok1 e1 z v rv => ?_⟩
    obtain ⟨z1, z2⟩ := z
    cases ht : t u with
    | none => rw [ht] at z2; exact z2.elim
    | some l =>
      rw [ht] at z2
      refine ⟨Gs F env sg, io1, u, l, rv, ht, fun vs rvs => ?_⟩
      obtain ⟨f3, e3⟩ := z1.setAll l vs rvs
      exact z2 io1 _ H1 f3 e3
  · rw [hm]
    show wpAny _ _ (assign tg X.env v) _ _ _
    exact thn (hg.run pins s1 sg H1 x v _ I1 r1 q1) fun _ s2 ⟨sg2, H2, I2, q2⟩ => ⟨sg2, H2, I2, q2⟩
end
@[simp] theorem sUnp_ap (t : Tg) (f : DE) (env : Env) (st : Store) : sUnp t f env st = (f env st).out env fun u st1 => match t u with
  | none => .bad
  | some l => .nx (setE env l) st1 := (rfl)
end D
namespace D
open PySem L2
def tgA (is : List Nat) : Tg := fun u => match u with
  | .tup us => if us.length = is.length then some (is.zip us) else none
  | .lst us => if us.length = is.length then some (is.zip us) else none
  | _ => none
section
variable {X : Cx} {xs : XS} {wx : WX} {pos : Pos}
theorem pg_or {tg : Expr} {t1 t2 : TG} (h1 : PG X tg t1) (h2 : PG X tg t2) : PG X tg (fun v sg H Q => t1 v sg H Q ∨ t2 v sg H Q) :=
  ⟨fun pins s sg H v u Q I r h => h.elim (fun z => h1.run pins s sg H v u Q I r z) fun z => h2.run pins s sg H v u Q I r z⟩
theorem g_any {es : List Expr} {k : Nat} {is : List Nat} (hc : X.calm = true) (hN : X.N.Nodup) (h : GNames X es is) : PG X (.Tuple es k pos) (gD X.K (tgA is)) := by
  obtain ⟨h1, h2, h3⟩ := GNames.pgs hN h
  refine pg_imp (pg_or (pg_tup hc h1 h2 h3) (pg_lst hc h1 h2 h3)) fun v sg H Q q => ?_
  obtain ⟨G, io, u, l, r, e, q⟩ := q
  cases u with
  | tup us =>
    simp only [tgA] at e
    split at e
    · rename_i hl
      cases e
      obtain ⟨a, vs, rfl, lt, rs⟩ := r.tup'
      have hv : vs.length = is.length := by rw [← rs.length]; exact hl
      rw [zip_fst _ _ hl, zip_snd _ _ hl] at q
      exact .inl ⟨a, vs, rfl, lt.sq, hv, gSet_of is vs sg hv (q vs rs)⟩
    · cases e
  | lst us =>
    simp only [tgA] at e
    split at e
    · rename_i hl
      cases e
      obtain ⟨a, vs, rfl, lt, rs⟩ := r.lst'
      have hv : vs.length = is.length := by rw [← rs.length]; exact hl
      rw [zip_fst _ _ hl, zip_snd _ _ hl] at q
      exact .inr ⟨a, vs, rfl, lt.sq, hv, gSet_of is vs sg hv (q vs rs)⟩
    · cases e
  | _ => cases e
end
@[simp] theorem add_int (i j : Int) : add2 (.int i) (.int j) = some (.int (i + j)) := (rfl)
@[simp] theorem sub_int (i j : Int) : sub2 (.int i) (.int j) = some (.int (i - j)) := (rfl)
@[simp] theorem lt_int (i j : Int) : lt2 (.int i) (.int j) = some (.bl (decide (i < j))) := (rfl)
@[simp] theorem le_int (i j : Int) : le2 (.int i) (.int j) = some (.bl (decide (i ≤ j))) := (rfl)
@[simp] theorem gt_int (i j : Int) : gt2 (.int i) (.int j) = some (.bl (decide (j < i))) := (rfl)
@[simp] theorem ge_int (i j : Int) : ge2 (.int i) (.int j) = some (.bl (decide (j ≤ i))) := (rfl)
@[simp] theorem eq_int (i j : Int) : eq2 (.int i) (.int j) = some (.bl (decide (i = j))) := (rfl)
@[simp] theorem ne_int (i j : Int) : ne2 (.int i) (.int j) = some (.bl (!decide (i = j))) := (rfl)
@[simp] theorem eq_str (i j : Str) : eq2 (.str i) (.str j) = some (.bl (decide (i = j))) := (rfl)
@[simp] theorem ne_str (i j : Str) : ne2 (.str i) (.str j) = some (.bl (!decide (i = j))) := (rfl)
@[simp] theorem eq_bl (i j : Bool) : eq2 (.bl i) (.bl j) = some (.bl (decide (i = j))) := (rfl)
@[simp] theorem ne_bl (i j : Bool) : ne2 (.bl i) (.bl j) = some (.bl (!decide (i = j))) := (rfl)
@[simp] theorem is_bl (i j : Bool) : is2 (.bl i) (.bl j) = some (.bl (decide (i = j))) := (rfl)
@[simp] theorem isnot_bl (i j : Bool) : isnot2 (.bl i) (.bl j) = some (.bl (!decide (i = j))) := (rfl)
@[simp] theorem lt_str (i j : Str) : lt2 (.str i) (.str j) = some (.bl (ltC i j)) := (rfl)
@[simp] theorem le_str (i j : Str) : le2 (.str i) (.str j) = some (.bl (!ltC j i)) := (rfl)
@[simp] theorem neg_int (i : Int) : neg1 (.int i) = some (.int (-i)) := (rfl)
@[simp] theorem len_lst (us : List U) : lenN [.lst us] = some (.int us.length) := (rfl)
@[simp] theorem len_tup (us : List U) : lenN [.tup us] = some (.int us.length) := (rfl)
@[simp] theorem len_scr (us : List Int) : lenN [.scr us] = some (.int us.length) := (rfl)
@[simp] theorem tup_lst (us : List U) : tupN [.lst us] = some (.tup us) := (rfl)
@[simp] theorem tup_tup (us : List U) : tupN [.tup us] = some (.tup us) := (rfl)
@[simp] theorem items_lst (us : List U) : items (.lst us) = some us := (rfl)
@[simp] theorem items_tup (us : List U) : items (.tup us) = some us := (rfl)
@[simp] theorem max_int (i j : Int) : maxN [.int i, .int j] = some (.int (if j > i then j else i)) := (rfl)
@[simp] theorem min_int (i j : Int) : minN [.int i, .int j] = some (.int (if j < i then j else i)) := (rfl)
end D
namespace D
open PySem L2
end D
namespace D
open PySem L2
section
variable {X : Cx}
variable {xs : XS} {wx : WX} {pos : Pos}
def seqU : U → Option (List U)
  | .lst us => some us
  | .tup us => some us
  | _ => none
def sExt (i : Nat) (f : DE) : DS := fun env st => match env[i]? with
  | some (.own us) => (f env st).out env fun u st1 => match seqU u with
    | some ws => if us.length + ws.length ≤ sizeLine then .nx (env.set i (.own (us ++ ws))) st1 else .bad
    | none => .bad
  | _ => .bad
end
@[simp] theorem sExt_ap (i : Nat) (f : DE) (env : Env) (st : Store) : sExt i f env st = match env[i]? with
  | some (.own us) => (f env st).out env fun u st1 => match seqU u with
    | some ws => if us.length + ws.length ≤ sizeLine then .nx (env.set i (.own (us ++ ws))) st1 else .bad
    | none => .bad
  | _ => .bad := (rfl)
@[simp] theorem seqU_lst (us : List U) : seqU (.lst us) = some us := (rfl)
@[simp] theorem seqU_tup (us : List U) : seqU (.tup us) = some us := (rfl)
end D
namespace D
open PySem L2
def catU : U → U → Option (List U)
  | .lst a, .lst b => if a.length + b.length ≤ sizeLine then some (a ++ b) else none
  | _, _ => none
def catL (f g : DE) : DL := fun env st => (f env st).bind fun u st1 => (g env st1).bind fun v st2 => Rs.of (catU u v) st2
@[simp] theorem catL_ap (f g : DE) (env : Env) (st : Store) : catL f g env st = (f env st).bind fun u st1 => (g env st1).bind fun v st2 => Rs.of (catU u v) st2 := (rfl)
@[simp] theorem catU_lst (a b : List U) : catU (.lst a) (.lst b) = if a.length + b.length ≤ 16777216 then some (a ++ b) else none := by rw [← sizeLine_val]; rfl
end D
namespace D
open PySem L2
section
variable {X : Cx} {xs : XS} {wx : WX} {pos : Pos}
def maxI (n : Int) (r : List Int) : Int := r.foldl (fun a y => if a < y then y else a) n
/-- max(xs, default=d) -/
def maxD2 : U → U → Option U
  | .lst us, d => match intsU us with
    | some (n :: r) => some (.int (maxI n r))
    | some [] => some d
    | none => none
  | _, _ => none
def maxDef (f g : DE) : DE := fun env st => (f env st).bind fun u st1 => (g env st1).bind fun v st2 => Rs.of (maxD2 u v) st2
end
@[simp] theorem maxDef_ap (f g : DE) (env : Env) (st : Store) : maxDef f g env st = (f env st).bind fun u st1 => (g env st1).bind fun v st2 => Rs.of (maxD2 u v) st2 := (rfl)
end D
namespace D
open PySem L2
def ownL : Option Sl → Option (List U)
  | some (.own us) => some us
  | some (.val (.lst us)) => some us
  | _ => none
def flat1 (o : Option U) : Option U := match o with
  | some u => if flatU u then some u else none
  | none => none
def binO (g : U → U → Option U) (fa : DE) (i : Nat) : DE := fun env st => (fa env st).bind fun u st1 => Rs.of ((ownL env[i]?).bind fun us => flat1 (g u (.lst us))) st1
theorem flat_any {K : PySem.W.Frag} {W W' : Addr → Prop} {io io' : List Addr} {H H' : Hp} {u : U} {v : V} (h : flatU u = true) (r : Rep K W io H u v) : Rep K W' io' H' u v := by
  cases u <;> first | (unfold Rep at r ⊢; exact r) | cases h
theorem flat1_of {o : Option U} {u : U} (h : flat1 o = some u) : o = some u ∧ flatU u = true := by
  unfold flat1 at h
  split at h
  · split at h
    · rename_i q; cases h; exact ⟨rfl, q⟩
    · cases h
  · cases h
@[simp] theorem binO_ap (g : U → U → Option U) (fa : DE) (i : Nat) (env : Env) (st : Store) : binO g fa i env st = (fa env st).bind fun u st1 => Rs.of ((ownL env[i]?).bind fun us => flat1 (g u (.lst us))) st1 := (rfl)
@[simp] theorem ownL_own (us : List U) : ownL (some (.own us)) = some us := (rfl)
@[simp] theorem ownL_val (us : List U) : ownL (some (.val (.lst us))) = some us := (rfl)
@[simp] theorem flat1_bl (b : Bool) : flat1 (some (.bl b)) = some (.bl b) := (rfl)
@[simp] theorem flat1_int (b : Int) : flat1 (some (.int b)) = some (.int b) := (rfl)
end D
namespace D
open PySem L2
def isX (t : List (Str × Bool)) (f : DE) : DE := fun env st => (f env st).bind fun u st1 => match u with
  | .ref n => match st1[n]? with
    | some (.ins c _) => match tabB t c with
      | some b => .ok (.bl b) st1
      | none => .bad
    | _ => .bad
  | _ => .bad
def attrX (cs : List Str) (n : Str) (f : DE) : DE := fun env st => (f env st).bind fun u st1 => match u with
  | .ref k => match st1[k]? with
    | some (.ins c fs) => if c ∈ cs then match fs.lookup n with
      | some v => .ok v st1
      | none => .bad else .bad
    | _ => .bad
  | _ => .bad
def sRaise (c : Str) (ns : List Str) (fa : DA) : DS := fun env st => (fa env st).out env fun us st1 => if us.length = ns.length ∧ us.all flatU = true then .ex c (ns.zip us).reverse env st1 else .bad
end D
namespace D
open PySem L2
@[simp] theorem sTryK_ap (t : List (Str × Bool)) (i j : Nat) (b : DS) (env : Env) (st : Store) : sTryK t i j b env st = match b env st with
  | .ex c fs env' st' => match tabB t c with
    | some true => .nx (((env'.set i (.val (.ref st'.length))).set j (.val (.ref st'.length))).set i .un) (st' ++ [.ins c fs])
    | some false => .ex c fs env' st'
    | none => .bad
  | o => o := (rfl)
@[simp] theorem isX_ap (t : List (Str × Bool)) (f : DE) (env : Env) (st : Store) : isX t f env st = (f env st).bind fun u st1 => match u with
  | .ref n => match st1[n]? with
    | some (.ins c _) => match tabB t c with
      | some b => .ok (.bl b) st1
      | none => .bad
    | _ => .bad
  | _ => .bad := (rfl)
@[simp] theorem attrX_ap (cs : List Str) (n : Str) (f : DE) (env : Env) (st : Store) : attrX cs n f env st = (f env st).bind fun u st1 => match u with
  | .ref k => match st1[k]? with
    | some (.ins c fs) => if c ∈ cs then match fs.lookup n with
      | some v => .ok v st1
      | none => .bad else .bad
    | _ => .bad
  | _ => .bad := (rfl)
@[simp] theorem sRaise_ap (c : Str) (ns : List Str) (fa : DA) (env : Env) (st : Store) : sRaise c ns fa env st = (fa env st).out env fun us st1 => if us.length = ns.length ∧ us.all flatU = true then .ex c (ns.zip us).reverse env st1 else .bad := (rfl)
end D
namespace D
open PySem L2
def sRaise0 (c : Str) : DS := fun env st => .ex c [] env st
@[simp] theorem sRaise0_ap (c : Str) (env : Env) (st : Store) : sRaise0 c env st = .ex c [] env st := (rfl)
end D
namespace D
open PySem L2
section
variable {K : PySem.W.Frag} {F G : Addr → Prop} {io : List Addr} {st : Store} {env : Env} {sg : L2.St} {H : Hp}
theorem Ok.alloc (ok : Ok K G io st H) {a : Addr} {o : HO} {ob : Ob} (na : H a = none) (hx : NX o) (new : ObRep K (Wf G (io ++ [a])) (io ++ [a]) (upd H a o) a ob) :
    Ok K G (io ++ [a]) (st ++ [ob]) (upd H a o) ∧ Ext io H (io ++ [a]) (upd H a o) := by
  have nW : ¬ Wf G io a := ok.fresh na
  have s : Same H (upd H a o) := same_upd na
  have ex : Ext io H (io ++ [a]) (upd H a o) := ⟨⟨[a], rfl, fun b hb => by rw [List.mem_singleton] at hb; rw [hb]; exact na⟩, fun b u _ h => s b u h, fun b u h => ⟨u, s b u h⟩⟩
  refine ⟨?_, ex⟩
  refine ⟨?_, fun b hb z => ?_, fun b hb => ?_, by simp [ok.len], fun n ob' b e1 e2 => ?_⟩
  · rw [List.nodup_append]
    refine ⟨ok.nd, by simp, fun x hx y hy e => ?_⟩
    rw [List.mem_singleton] at hy
    subst hy; subst e
    exact nW (.inr hx)
  · rcases List.mem_append.mp hb with h | h
    · exact ok.dj b h z
    · rw [List.mem_singleton] at h; subst h
      exact nW (.inl z)
  · by_cases e : b = a
    · subst e; exact ⟨o, upd_same, hx⟩
    · have hb' : Wf G io b := hb.imp id fun z => by
        rcases List.mem_append.mp z with h | h
        · exact h
        · exact (e (List.mem_singleton.mp h)).elim
      obtain ⟨u, q, x⟩ := ok.trk b hb'
      exact ⟨u, s b u q, x⟩
  · by_cases hn : n < io.length
    · rw [List.getElem?_append_left hn] at e2
      rw [List.getElem?_append_left (by rw [ok.len]; exact hn)] at e1
      exact (ok.obs n ob' b e1 e2).mono ex.mono (fun u q => s b u q) fun dd ws q => s _ _ q
    · rw [List.getElem?_append_right (Nat.le_of_not_lt hn)] at e2
      rw [List.getElem?_append_right (by rw [ok.len]; exact Nat.le_of_not_lt hn)] at e1
      rw [ok.len] at e1
      have h0 : n - io.length = 0 := by
        cases h : n - io.length with
        | zero => rfl
        | succ k => rw [h] at e2; simp at e2
      rw [h0] at e1 e2
      simp only [List.getElem?_cons_zero, Option.some.injEq] at e1 e2
      subst e1; subst e2
      exact new
/-- a list of the store turns -/
theorem Fr.turnRef (f : Fr K F io st env sg H) {n : Nat} {us us' : List U} {vs' : List V} {a : Addr} (h1 : st[n]? = some (.lst us)) (h2 : io[n]? = some a) (r : Reps K (Wf (Gs F env sg) io) io H us' vs') :
    Fr K F io (st.set n (.lst us')) env sg (upd H a (.lst vs')) ∧ ExtO io H (Ow env sg) io (upd H a (.lst vs')) (Ow env sg) := by
  have ha : a ∈ io := List.mem_of_getElem? h2
  have hn : n < st.length := (List.getElem?_eq_some_iff.mp h1).1
  have keep : ∀ b o, b ≠ a → H b = some o → (upd H a (.lst vs')) b = some o := fun b o q h => by rw [upd_ne q]; exact h
  have ex : ExtO io H (Ow env sg) io (upd H a (.lst vs')) (Ow env sg) := ⟨⟨[], by simp, fun _ h => nomatch h⟩, fun b o q _ h => keep b o (fun e => q (e ▸ ha)) h, fun b o h => by
    by_cases e : b = a
    · subst e; exact ⟨_, upd_same⟩
    · exact ⟨o, keep b o e h⟩, fun b h => .inl h⟩
  have m := ex.mono (F := F)
  have nG : ∀ b, Gs F env sg b → b ≠ a := fun b hb e => f.ok.dj a ha (e ▸ hb)
  have nxa : ∀ (dd : Addr) (ws : List (Str × V)), H dd = some (.xd ws) → dd ≠ a := fun dd ws z e => by
    subst e
    obtain ⟨o, e1, x⟩ := f.ok.trk dd (.inr ha)
    rw [z] at e1; cases e1; exact x ws rfl
  refine ⟨⟨⟨f.ok.nd, f.ok.dj, fun b h => ?_, by simp [f.ok.len], fun k ob b e1 e2 => ?_⟩, ⟨f.er.len, fun j sl o g1 g2 => ?_⟩, f.nF, f.dd⟩, ex⟩
  · obtain ⟨o, e, x⟩ := f.ok.trk b h
    by_cases hb : b = a
    · subst hb; exact ⟨_, upd_same, nx_lst⟩
    · exact ⟨o, keep b o hb e, x⟩
  · by_cases hk : n = k
    · subst hk
      rw [List.getElem?_set_self hn] at e1
      rw [h2] at e2
      cases e1; cases e2
      exact ⟨vs', upd_same, r.mono m⟩
    · rw [List.getElem?_set_ne hk] at e1
      have nb : b ≠ a := fun e => by
        subst e
        exact hk ((List.getElem?_inj (List.getElem?_eq_some_iff.mp h2).1 f.ok.nd).mp (h2.trans e2.symm))
      exact (f.ok.obs k ob b e1 e2).mono m (fun u q => keep b u nb q) fun dd ws q => keep dd _ (nxa dd ws q) q
  · have q := f.er.sl j sl o g1 g2
    cases sl with
    | un => trivial
    | val u' => obtain ⟨v', q1, q2⟩ := q; exact ⟨v', q1, q2.mono m⟩
    | own w =>
      obtain ⟨b, vs1, q1, q2, q3, q4⟩ := q
      exact ⟨b, vs1, q1, q2, keep _ _ (nG b q2) q3, q4.mono m⟩
end
/-- a new list, of the store -/
def refL (f : DL) : DE := fun env st => (f env st).bind fun us st1 => .ok (.ref st1.length) (st1 ++ [.lst us])
def ixR (f g : DE) : DE := fun env st => (f env st).bind fun u st1 => (g env st1).bind fun v st2 => match u, v with
  | .ref n, .int i => match st2[n]? with
    | some (.lst us) => Rs.of (atI us i) st2
    | _ => .bad
  | _, _ => .bad
def sIxR (f g e : DE) : DS := fun env st => (e env st).out env fun v st1 => (f env st1).out env fun u st2 => (g env st2).out env fun k st3 => match u, k with
  | .ref n, .int i => match st3[n]? with
    | some (.lst us) => match ixN us.length i with
      | some j => .nx env (st3.set n (.lst (us.set j v)))
      | none => .bad
    | _ => .bad
  | _, _ => .bad
theorem Reps.set : ∀ {K : PySem.W.Frag} {W : Addr → Prop} {io : List Addr} {H : Hp} {us : List U} {vs : List V} {u : U} {v : V} (j : Nat), Reps K W io H us vs → Rep K W io H u v → Reps K W io H (us.set j u) (vs.set j v)
  | _, _, _, _, [], vs, u, v, j, h, r => by rw [h.isNil]; simpa using Reps.nil
  | _, _, _, _, w :: us, vs, u, v, 0, h, r => by
    obtain ⟨x, t, rfl, h1, h2⟩ := h.uncons
    exact .cons r h2
  | _, _, _, _, w :: us, vs, u, v, j + 1, h, r => by
    obtain ⟨x, t, rfl, h1, h2⟩ := h.uncons
    exact .cons h1 (Reps.set j h2 r)
theorem Reps.atI' {K : PySem.W.Frag} {W : Addr → Prop} {io : List Addr} {H : Hp} {us : List U} {vs : List V} {i : Int} {u : U} (h : Reps K W io H us vs) (e : atI us i = some u) : ∃ v, atI vs i = some v ∧ Rep K W io H u v := by
  unfold atI at e ⊢
  rw [← h.length]
  cases q : ixN us.length i with
  | none => rw [q] at e; cases e
  | some j =>
    rw [q] at e
    exact h.get e
theorem ref_list {K : PySem.W.Frag} {G : Addr → Prop} {io : List Addr} {st : Store} {H : Hp} {n : Nat} {us : List U} {v : V} (ok : Ok K G io st H) (h : st[n]? = some (.lst us)) (r : Rep K (Wf G io) io H (.ref n) v) : ∃ a vs, v = .ref a ∧ io[n]? = some a ∧ H a = some (.lst vs) ∧ Reps K (Wf G io) io H us vs := by
  unfold Rep at r
  obtain ⟨a, e1, rfl⟩ := r
  obtain ⟨vs, q1, q2⟩ := ok.obs n _ a h e1
  exact ⟨a, vs, rfl, e1, q1, q2⟩
section
variable {X : Cx} {xs : XS} {wx : WX} {pos : Pos}
theorem d_refL {e : Expr} {f : DL} (h : PE X e (tDL X.K xs wx f)) : PE X e (tD X.K xs wx (refL f)) := pe_imp h fun sg H Q q => by
  obtain ⟨G, io, st, env, ok, er, w⟩ := q
  refine ⟨G, io, st, env, ok, er, w.bind.impR fun st1 io1 H1 us ok1 e1 w1 vs a rvs na => ?_⟩
  have sm : Same H1 (upd H1 a (.lst vs)) := same_upd na
  have m : Mono G io1 H1 G (io1 ++ [a]) (upd H1 a (.lst vs)) := ⟨⟨[a], rfl⟩, fun b o n h => ⟨sm b o h, fun z => z.elim (fun y => n (.inl y)) fun y => by
    rcases List.mem_append.mp y with y | y
    · exact n (.inr y)
    · rw [List.mem_singleton] at y
      subst y
      rw [na] at h; cases h⟩⟩
  obtain ⟨ok2, e2⟩ := ok1.alloc (o := .lst vs) (ob := .lst us) na nx_lst ⟨vs, upd_same, rvs.mono m⟩
  refine w1 (io1 ++ [a]) _ ok2 e2 (.ref a) ?_
  unfold Rep
  refine ⟨a, ?_, rfl⟩
  rw [ok1.len, List.getElem?_append_right (Nat.le_refl _)]
  simp
theorem d_ixR {a b : Expr} {f g : DE} (ha : PE X a (tD X.K xs wx f)) (hb : PE X b (tD X.K xs wx g)) (hs : PlainIx b) : PE X (.Subscript a b pos) (tD X.K xs wx (ixR f g)) := pe_imp (pe_ix ix_list ha hb hs) fun sg H Q h => by
  obtain ⟨G, io, st, env, ok, er, w⟩ := h
  refine ⟨G, io, st, env, ok, er, w.bind.impR fun st1 io1 H1 u ok1 e1 w1 v rv => ?_⟩
  refine ⟨G, io1, st1, env, ok1, er.ext ok.dj e1, w1.bind.impR fun st2 io2 H2 u2 ok2 e2 w2 v2 rv2 => ?_⟩
  split at w2
  · rename_i n i
    split at w2
    · rename_i us hu
      obtain ⟨w', hw, w3⟩ := w2.pure
      obtain ⟨a, vs, rfl, q1, q2, q3⟩ := ref_list ok2 hu (rv.ext e2)
      have e : v2 = .int i := by unfold Rep at rv2; exact rv2
      subst e
      obtain ⟨y, hy, ry⟩ := q3.atI' hw
      exact ⟨a, vs, i, y, rfl, rfl, .inl (.inl q2), hy, w3.here ok2 y ry⟩
    · exact w2.elim
  · exact w2.elim
theorem s_ixR {o i e : Expr} {f g h : DE} {pos' : Pos} (ho : PE X o (tD X.K xs wx f)) (hi : PE X i (tD X.K xs wx g)) (he : PE X e (tD X.K xs wx h)) (hs : swapsWithSole [.Subscript o i pos'] e pos.line X.env = Pure.pure false := by rfl) (hw : swappedStores [.Subscript o i pos'] e X.env = Pure.pure none := by rfl)
    (h1 : (assignEach [.Subscript o i pos'] X.env).map (·.2) = [assign (.Subscript o i pos') X.env] := by rfl)
    (ha : ∀ v, assign (.Subscript o i pos') X.env v = (do
      let ov ← holding [v] (eval o X.env)
      let iv ← holding [v, ov] (eval i X.env)
      standAt pos'
      holding [v, ov, iv] (setItem ov iv v)
      release [v, ov, iv] []) := by intro _; rfl) : PS X (.Assign [.Subscript o i pos'] e pos) (tDS X.K xs wx (sIxR f g h)) :=
  ps_imp (ps_asg he (pg_sub ho hi set_list ha) hs hw h1) fun D sg H q => by
    obtain ⟨F, io, st, env, fr, w⟩ := q
    refine ⟨Gs F env sg, io, st, env, fr.ok, fr.er, (WantsS.expr fr w).impR fun st1 io1 H1 v ok1 e1 z x rx => ?_⟩
    refine ⟨Gs F env sg, io1, st1, env, z.1.ok, z.1.er, (WantsS.expr z.1 z.2).impR fun st2 io2 H2 u ok2 e2 z2 y ry => ?_⟩
    refine ⟨Gs F env sg, io2, st2, env, z2.1.ok, z2.1.er, (WantsS.expr z2.1 z2.2).impR fun st3 io3 H3 k ok3 e3 z3 t rt => ?_⟩
    have z4 := z3.2
    split at z4
    · rename_i n i
      split at z4
      · rename_i us hu
        split at z4
        · rename_i j hj
          obtain ⟨a, vs, rfl, q1, q2, q3⟩ := ref_list ok3 hu (ry.ext e3)
          have et : t = .int i := by unfold Rep at rt; exact rt
          subst et
          refine ⟨a, vs, i, j, rfl, rfl, q2, by rw [← q3.length]; exact hj, ?_⟩
          obtain ⟨f4, e4⟩ := z3.1.turnRef hu q1 (q3.set j ((rx.ext e2).ext e3))
          exact z4 _ _ _ f4 e4
        · exact z4.elim
      · exact z4.elim
    · exact z4.elim
end
@[simp] theorem refL_ap (f : DL) (env : Env) (st : Store) : refL f env st = (f env st).bind fun us st1 => .ok (.ref st1.length) (st1 ++ [.lst us]) := (rfl)
@[simp] theorem ixR_ap (f g : DE) (env : Env) (st : Store) : ixR f g env st = (f env st).bind fun u st1 => (g env st1).bind fun v st2 => match u, v with
  | .ref n, .int i => match st2[n]? with
    | some (.lst us) => Rs.of (atI us i) st2
    | _ => .bad
  | _, _ => .bad := (rfl)
@[simp] theorem sIxR_ap (f g e : DE) (env : Env) (st : Store) : sIxR f g e env st = (e env st).out env fun v st1 => (f env st1).out env fun u st2 => (g env st2).out env fun k st3 => match u, k with
  | .ref n, .int i => match st3[n]? with
    | some (.lst us) => match ixN us.length i with
      | some j => .nx env (st3.set n (.lst (us.set j v)))
      | none => .bad
    | _ => .bad
  | _, _ => .bad := (rfl)
end D
namespace D
open PySem L2
def cut3 (u : U) (lo hi : Option Int) : Option (List U) := match u with
  | .lst us => some (cutL us lo hi)
  | .scr ns => some ((cutL ns lo hi).map U.int)
  | _ => none
def slL (f : DE) (a b : DO) : DL := fun env st => (f env st).bind fun u st1 => (a env st1).bind fun l st2 => (b env st2).bind fun h st3 => Rs.of (cut3 u l h) st3
@[simp] theorem slL_ap (f : DE) (a b : DO) (env : Env) (st : Store) : slL f a b env st = (f env st).bind fun u st1 => (a env st1).bind fun l st2 => (b env st2).bind fun h st3 => Rs.of (cut3 u l h) st3 := (rfl)
@[simp] theorem cut3_lst (us : List U) (lo hi : Option Int) : cut3 (.lst us) lo hi = some (cutL us lo hi) := (rfl)
@[simp] theorem cut3_scr (us : List Int) (lo hi : Option Int) : cut3 (.scr us) lo hi = some ((cutL us lo hi).map U.int) := (rfl)
end D
namespace D
open PySem L2
def slR (f : DE) (a b : DO) : DL := fun env st => (f env st).bind fun u st1 => (a env st1).bind fun l st2 => (b env st2).bind fun h st3 => match u with
  | .ref n => match st3[n]? with
    | some (.lst us) => .ok (cutL us l h) st3
    | _ => .bad
  | _ => .bad
@[simp] theorem slR_ap (f : DE) (a b : DO) (env : Env) (st : Store) : slR f a b env st = (f env st).bind fun u st1 => (a env st1).bind fun l st2 => (b env st2).bind fun h st3 => match u with
  | .ref n => match st3[n]? with
    | some (.lst us) => .ok (cutL us l h) st3
    | _ => .bad
  | _ => .bad := (rfl)
end D
namespace D
open PySem L2
def sRetR (i : Nat) : DS := fun env st => match env[i]? with
  | some (.own us) => .rt (.ref st.length) (st ++ [.lst us])
  | _ => .bad
@[simp] theorem sRetR_ap (i : Nat) (env : Env) (st : Store) : sRetR i env st = match env[i]? with
  | some (.own us) => .rt (.ref st.length) (st ++ [.lst us])
  | _ => .bad := (rfl)
end D
namespace D
open PySem L2
end D
namespace D
open PySem L2
def tupSN : List U → Option U
  | [.str x] => if x.cps.size ≤ sizeLine then some (.tup (x.cps.toList.map fun c => U.str ⟨#[c]⟩)) else none
  | _ => none
@[simp] theorem tupSN_ap (x : Str) : tupSN [.str x] = if x.cps.size ≤ 16777216 then some (.tup (x.cps.toList.map fun c => U.str ⟨#[c]⟩)) else none := by rw [← sizeLine_val]; rfl
end D
namespace D
open PySem L2
def join2 (a : Str) (u : U) : Option U := (txts u).bind fun ys => if (ys.map (·.length)).sum + ys.length * a.length ≤ 16777216 then some (.str (Txt.join a ys)) else none
def joinD (f g : DE) : DE := fun env st => (f env st).bind fun u st1 => match u with
  | .str a => (g env st1).bind fun v st2 => Rs.of (join2 a v) st2
  | _ => .bad
def lenR (f : DE) : DE := fun env st => (f env st).bind fun u st1 => match u with
  | .ref n => match st1[n]? with
    | some (.lst us) => .ok (.int us.length) st1
    | _ => .bad
  | _ => .bad
def catR (f g : DE) : DL := fun env st => (f env st).bind fun u st1 => (g env st1).bind fun v st2 => match u, v with
  | .ref n, .lst ws => match st2[n]? with
    | some (.lst us) => if us.length + ws.length ≤ sizeLine then .ok (us ++ ws) st2 else .bad
    | _ => .bad
  | _, _ => .bad
def sExtR (f g : DE) : DS := fun env st => (f env st).out env fun u st1 => match u with
  | .ref n => match st1[n]? with
    | some (.lst _) => (g env st1).out env fun v st2 => match st2[n]?, seqU v with
      | some (.lst us), some ws => if us.length + ws.length ≤ sizeLine then .nx env (st2.set n (.lst (us ++ ws))) else .bad
      | _, _ => .bad
    | _ => .bad
  | _ => .bad
mutual
def noRef : U → Bool
  | .ref _ => false
  | .tup us => noRefs us
  | .lst us => noRefs us
  | .dct _ us => noRefs us
  | _ => true
def noRefs : List U → Bool
  | [] => true
  | u :: us => noRef u && noRefs us
end
mutual
theorem Rep.io_any {K : PySem.W.Frag} {W W' : Addr → Prop} {io io' : List Addr} {H : Hp} (hW : ∀ a, W' a → W a) : ∀ (u : U) (v : V), noRef u = true → Rep K W io H u v → Rep K W' io' H u v
  | .non, v, _, h => by unfold Rep at h ⊢; exact h
  | .bl b, v, _, h => by unfold Rep at h ⊢; exact h
  | .int i, v, _, h => by unfold Rep at h ⊢; exact h
  | .str x, v, _, h => by unfold Rep at h ⊢; exact h
  | .ty x, v, _, h => by unfold Rep at h ⊢; exact h
  | .ref x, v, n, h => by unfold noRef at n; cases n
  | .tup us, v, n, h => by
    unfold Rep at h ⊢
    unfold noRef at n
    obtain ⟨a, vs, e, l, r⟩ := h
    refine ⟨a, vs, e, ?_, Reps.io_any hW us vs n r⟩
    unfold LT at l ⊢
    exact l.imp (fun z => ⟨z.1, fun y => z.2 (hW a y)⟩) id
  | .lst us, v, n, h => by
    unfold Rep at h ⊢
    unfold noRef at n
    obtain ⟨a, vs, e, l, r⟩ := h
    refine ⟨a, vs, e, ?_, Reps.io_any hW us vs n r⟩
    unfold LL at l ⊢
    exact ⟨l.1, fun z => l.2 (hW a z)⟩
  | .dct ks us, v, n, h => by
    unfold Rep at h ⊢
    unfold noRef at n
    obtain ⟨a, vs, e, l, r⟩ := h
    refine ⟨a, vs, e, ?_, Reps.io_any hW us vs n r⟩
    unfold LD at l ⊢
    exact ⟨fun z => l.1 (hW a z), l.2⟩
  | .scr ns, v, n, h => by
    unfold Rep at h ⊢
    obtain ⟨a, e, l⟩ := h
    refine ⟨a, e, ?_⟩
    unfold LS at l ⊢
    exact l.imp (fun z => ⟨z.1, fun y => z.2 (hW a y)⟩) id
theorem Reps.io_any {K : PySem.W.Frag} {W W' : Addr → Prop} {io io' : List Addr} {H : Hp} (hW : ∀ a, W' a → W a) : ∀ (us : List U) (vs : List V), noRefs us = true → Reps K W io H us vs → Reps K W' io' H us vs
  | [], vs, _, h => by unfold Reps at h ⊢; exact h
  | u :: us, vs, n, h => by
    unfold Reps at h ⊢
    unfold noRefs at n
    rw [Bool.and_eq_true] at n
    obtain ⟨v, r, e, q, t⟩ := h
    exact ⟨v, r, e, Rep.io_any hW u v n.1 q, Reps.io_any hW us r n.2 t⟩
end
/-- f(x), x a list of the frame's own, lent to a function that keeps nothing of it -/
def appO (g : List U → Store → Rs U) (i : Nat) : DE := fun env st => match ownL env[i]? with
  | some us => match g [.lst us] [] with
    | .ok u [] => if flatU u && noRefs us then .ok u st else .bad
    | _ => .bad
  | none => .bad
def binOL (g : U → U → Option U) (i : Nat) (fb : DE) : DE := fun env st => match ownL env[i]? with
  | some us => (fb env st).bind fun v st1 => Rs.of (flat1 (g (.lst us) v)) st1
  | none => .bad
def sPop (i : Nat) : DS := fun env st => match env[i]? with
  | some (.own us) => if 0 < us.length then .nx (env.set i (.own us.dropLast)) st else .bad
  | _ => .bad
section
variable {X : Cx} {xs : XS} {wx : WX} {pos : Pos}
theorem d_join {o e : Expr} {f g : DE} {apos : Pos} (ho : PE X o (tD X.K xs wx f)) (he : PE X e (tD X.K xs wx g)) (hs : starEach [e] X.env = [(false, eval e X.env)] := by rfl) (hbase : attributeBase o "join" X.env (eval o X.env) = eval o X.env := by rfl) (hline : (apos.endLine == pos.line) = true := by rfl) :
    PE X (.Call (.Attribute o "join" apos) [e] [] pos) (tD X.K xs wx (joinD f g)) := pe_imp (pe_join ho he hs hbase hline) fun sg H Q h => by
  obtain ⟨G, io, st, env, ok, er, w⟩ := h
  refine ⟨G, io, st, env, ok, er, w.bind.impR fun st1 io1 H1 u ok1 e1 w1 v rv => ?_⟩
  cases u with
  | str a =>
    have ev := rv.str'
    subst ev
    refine ⟨⟨a, rfl⟩, G, io1, st1, env, ok1, er.ext ok.dj e1, (Wants.bind w1).impR fun st2 io2 H2 u2 ok2 e2 w2 v2 rv2 => ?_⟩
    obtain ⟨r, hr, w3⟩ := w2.pure
    unfold join2 at hr
    rw [Option.bind_eq_some_iff] at hr
    obtain ⟨ys, hy, hr⟩ := hr
    split at hr
    · rename_i hz
      cases hr
      obtain ⟨l, rfl, sq⟩ := txts_rep rv2 hy
      exact ⟨a, l, ys, rfl, rfl, sq, hz, w3.here ok2 _ (rStr _)⟩
    · cases hr
  | _ => exact w1.elim
end
@[simp] theorem joinD_ap (f g : DE) (env : Env) (st : Store) : joinD f g env st = (f env st).bind fun u st1 => match u with
  | .str a => (g env st1).bind fun v st2 => Rs.of (join2 a v) st2
  | _ => .bad := (rfl)
@[simp] theorem lenR_ap (f : DE) (env : Env) (st : Store) : lenR f env st = (f env st).bind fun u st1 => match u with
  | .ref n => match st1[n]? with
    | some (.lst us) => .ok (.int us.length) st1
    | _ => .bad
  | _ => .bad := (rfl)
@[simp] theorem catR_ap (f g : DE) (env : Env) (st : Store) : catR f g env st = (f env st).bind fun u st1 => (g env st1).bind fun v st2 => match u, v with
  | .ref n, .lst ws => match st2[n]? with
    | some (.lst us) => if us.length + ws.length ≤ sizeLine then .ok (us ++ ws) st2 else .bad
    | _ => .bad
  | _, _ => .bad := (rfl)
@[simp] theorem sExtR_ap (f g : DE) (env : Env) (st : Store) : sExtR f g env st = (f env st).out env fun u st1 => match u with
  | .ref n => match st1[n]? with
    | some (.lst _) => (g env st1).out env fun v st2 => match st2[n]?, seqU v with
      | some (.lst us), some ws => if us.length + ws.length ≤ sizeLine then .nx env (st2.set n (.lst (us ++ ws))) else .bad
      | _, _ => .bad
    | _ => .bad
  | _ => .bad := (rfl)
@[simp] theorem appO_ap (g : List U → Store → Rs U) (i : Nat) (env : Env) (st : Store) : appO g i env st = match ownL env[i]? with
  | some us => match g [.lst us] [] with
    | .ok u [] => if flatU u && noRefs us then .ok u st else .bad
    | _ => .bad
  | none => .bad := (rfl)
@[simp] theorem binOL_ap (g : U → U → Option U) (i : Nat) (fb : DE) (env : Env) (st : Store) : binOL g i fb env st = match ownL env[i]? with
  | some us => (fb env st).bind fun v st1 => Rs.of (flat1 (g (.lst us) v)) st1
  | none => .bad := (rfl)
@[simp] theorem sPop_ap (i : Nat) (env : Env) (st : Store) : sPop i env st = match env[i]? with
  | some (.own us) => if 0 < us.length then .nx (env.set i (.own us.dropLast)) st else .bad
  | _ => .bad := (rfl)
end D
namespace D
open PySem L2
def sIxO (i : Nat) (g e : DE) : DS := fun env st => (e env st).out env fun v st1 => match env[i]? with
  | some (.own us) => (g env st1).out env fun k st2 => match k with
    | .int n => match ixN us.length n with
      | some j => .nx (env.set i (.own (us.set j v))) st2
      | none => .bad
    | _ => .bad
  | _ => .bad
@[simp] theorem sIxO_ap (i : Nat) (g e : DE) (env : Env) (st : Store) : sIxO i g e env st = (e env st).out env fun v st1 => match env[i]? with
  | some (.own us) => (g env st1).out env fun k st2 => match k with
    | .int n => match ixN us.length n with
      | some j => .nx (env.set i (.own (us.set j v))) st2
      | none => .bad
    | _ => .bad
  | _ => .bad := (rfl)
end D
namespace D
open PySem L2
theorem nx_dK {kvs : List (Key × V)} : NX (.dK kvs) := fun _ z => nomatch z
section
variable {K : PySem.W.Frag} {F G : Addr → Prop} {io : List Addr} {st : Store} {env : Env} {sg : L2.St} {H : Hp}
/-- an object of the store turns -/
theorem Fr.turnOb (f : Fr K F io st env sg H) {n : Nat} {ob ob' : Ob} {o' : HO} {a : Addr} (h1 : st[n]? = some ob) (h2 : io[n]? = some a) (hx : NX o')
    (new : Mono (Gs F env sg) io H (Gs F env sg) io (upd H a o') → ObRep K (Wf (Gs F env sg) io) io (upd H a o') a ob') :
    Fr K F io (st.set n ob') env sg (upd H a o') ∧ ExtO io H (Ow env sg) io (upd H a o') (Ow env sg) := by
  have ha : a ∈ io := List.mem_of_getElem? h2
  have hn : n < st.length := (List.getElem?_eq_some_iff.mp h1).1
  have keep : ∀ b o, b ≠ a → H b = some o → (upd H a o') b = some o := fun b o q h => by rw [upd_ne q]; exact h
  have ex : ExtO io H (Ow env sg) io (upd H a o') (Ow env sg) := ⟨⟨[], by simp, fun _ h => nomatch h⟩, fun b o q _ h => keep b o (fun e => q (e ▸ ha)) h, fun b o h => by
    by_cases e : b = a
    · subst e; exact ⟨_, upd_same⟩
    · exact ⟨o, keep b o e h⟩, fun b h => .inl h⟩
  have m := ex.mono (F := F)
  have nG : ∀ b, Gs F env sg b → b ≠ a := fun b hb e => f.ok.dj a ha (e ▸ hb)
  have nxa : ∀ (dd : Addr) (ws : List (Str × V)), H dd = some (.xd ws) → dd ≠ a := fun dd ws z e => by
    subst e
    obtain ⟨o, e1, x⟩ := f.ok.trk dd (.inr ha)
    rw [z] at e1; cases e1; exact x ws rfl
  refine ⟨⟨⟨f.ok.nd, f.ok.dj, fun b h => ?_, by simp [f.ok.len], fun k ob b e1 e2 => ?_⟩, ⟨f.er.len, fun j sl o g1 g2 => ?_⟩, f.nF, f.dd⟩, ex⟩
  · obtain ⟨o, e, x⟩ := f.ok.trk b h
    by_cases hb : b = a
    · subst hb; exact ⟨_, upd_same, hx⟩
    · exact ⟨o, keep b o hb e, x⟩
  · by_cases hk : n = k
    · subst hk
      rw [List.getElem?_set_self hn] at e1
      rw [h2] at e2
      cases e1; cases e2
      exact new m
    · rw [List.getElem?_set_ne hk] at e1
      have nb : b ≠ a := fun e => by
        subst e
        exact hk ((List.getElem?_inj (List.getElem?_eq_some_iff.mp h2).1 f.ok.nd).mp (h2.trans e2.symm))
      exact (f.ok.obs k ob b e1 e2).mono m (fun u q => keep b u nb q) fun dd ws q => keep dd _ (nxa dd ws q) q
  · have q := f.er.sl j sl o g1 g2
    cases sl with
    | un => trivial
    | val u' => obtain ⟨v', q1, q2⟩ := q; exact ⟨v', q1, q2.mono m⟩
    | own w =>
      obtain ⟨b, vs1, q1, q2, q3, q4⟩ := q
      exact ⟨b, vs1, q1, q2, keep _ _ (nG b q2) q3, q4.mono m⟩
/-- fields -/
def putU (x : Str) (v : U) : List (Str × U) → List (Str × U)
  | [] => [(x, v)]
  | (g, y) :: r => if g = x then (g, v) :: r else (g, y) :: putU x v r
end
/-- o.x -/
def fldD (cs : List Str) (x : Str) (f : DE) : DE := fun env st => (f env st).bind fun u st1 => match u with
  | .ref n => match st1[n]? with
    | some (.obj c fs) => if c ∈ cs then Rs.of (fs.lookup x) st1 else .bad
    | _ => .bad
  | _ => .bad
/-- o.x = e -/
def sFldS (cs : List Str) (x : Str) (f e : DE) : DS := fun env st => (e env st).out env fun v st1 => (f env st1).out env fun u st2 => match u with
  | .ref n => match st2[n]? with
    | some (.obj c fs) => if c ∈ cs ∧ fs.length < 1000 then .nx env (st2.set n (.obj c (putU x v fs))) else .bad
    | _ => .bad
  | _ => .bad
/-- C(..) -/
def mkO (c : Str) (g : List U → Store → Rs U) (fa : DA) : DE := fun env st => (fa env st).bind fun us st1 => (g (.ref st1.length :: us) (st1 ++ [.obj c []])).bind fun u st2 => match u with
  | .non => .ok (.ref st1.length) st2
  | _ => .bad
/-- o.m(..), by the object's class -/
def mtD (alts : List (Str × (List U → Store → Rs U))) (m : Str) (f : DE) (fa : DA) : DE := fun env st => (f env st).bind fun u st1 => match u with
  | .ref n => match st1[n]? with
    | some (.obj c fs) => match alts.lookup c, fs.lookup m with
      | some g, none => (fa env st1).bind fun us st2 => g (.ref n :: us) st2
      | _, _ => .bad
    | _ => .bad
  | _ => .bad
structure Mt (P : Program) (w : World) (K : PySem.W.Frag) (mg : Str → Option Value) (base : Heap) (xs : XS) (c m : Str) (k n : Nat) (g : List U → Store → Rs U) : Prop where
  ex : ∃ C f fd ps, clsAt K c = some C ∧ Cls K C ∧ Meth K C m f ∧ Binds K fd ps [] ∧ FnOk P w K mg base (L2.CX P w) k f fd ps (spD K xs n g)
  bad : ∀ us st, us.length ≠ n → g us st = .bad
def Mts (P : Program) (w : World) (K : PySem.W.Frag) (mg : Str → Option Value) (base : Heap) (xs : XS) (m : Str) (k : Nat) (alts : List (Str × (List U → Store → Rs U))) : Prop := ∀ p ∈ alts, clsAt K p.1 = none ∨ ∃ k' n, k' ≤ k ∧ Mt P w K mg base xs p.1 m k' n p.2
section
variable {P : Program} {w : World} {K : PySem.W.Frag} {mg : Str → Option Value} {base : Heap} {xs : XS} {m : Str} {k : Nat}
theorem Mts.at {alts : List (Str × (List U → Store → Rs U))} {c : Str} {g : List U → Store → Rs U} (h : Mts P w K mg base xs m k alts) (e : alts.lookup c = some g) : clsAt K c = none ∨ ∃ k' n, k' ≤ k ∧ Mt P w K mg base xs c m k' n g := by
  induction alts with
  | nil => cases e
  | cons p r ih =>
    rw [show p = (p.1, p.2) from rfl, List.lookup_cons] at e
    cases q : c == p.1 with
    | true =>
      rw [q] at e
      simp only at e
      cases e
      have : c = p.1 := eq_of_beq q
      rw [this]
      exact h p (List.mem_cons_self ..)
    | false => rw [q] at e; exact ih (fun p hp => h p (List.mem_cons_of_mem _ hp)) e
end
@[simp] theorem fldD_ap (cs : List Str) (x : Str) (f : DE) (env : Env) (st : Store) : fldD cs x f env st = (f env st).bind fun u st1 => match u with
  | .ref n => match st1[n]? with
    | some (.obj c fs) => if c ∈ cs then Rs.of (fs.lookup x) st1 else .bad
    | _ => .bad
  | _ => .bad := (rfl)
@[simp] theorem sFldS_ap (cs : List Str) (x : Str) (f e : DE) (env : Env) (st : Store) : sFldS cs x f e env st = (e env st).out env fun v st1 => (f env st1).out env fun u st2 => match u with
  | .ref n => match st2[n]? with
    | some (.obj c fs) => if c ∈ cs ∧ fs.length < 1000 then .nx env (st2.set n (.obj c (putU x v fs))) else .bad
    | _ => .bad
  | _ => .bad := (rfl)
@[simp] theorem mkO_ap (c : Str) (g : List U → Store → Rs U) (fa : DA) (env : Env) (st : Store) : mkO c g fa env st = (fa env st).bind fun us st1 => (g (.ref st1.length :: us) (st1 ++ [.obj c []])).bind fun u st2 => match u with
  | .non => .ok (.ref st1.length) st2
  | _ => .bad := (rfl)
@[simp] theorem mtD_ap (alts : List (Str × (List U → Store → Rs U))) (m : Str) (f : DE) (fa : DA) (env : Env) (st : Store) : mtD alts m f fa env st = (f env st).bind fun u st1 => match u with
  | .ref n => match st1[n]? with
    | some (.obj c fs) => match alts.lookup c, fs.lookup m with
      | some g, none => (fa env st1).bind fun us st2 => g (.ref n :: us) st2
      | _, _ => .bad
    | _ => .bad
  | _ => .bad := (rfl)
end D
namespace D
open PySem L2
section
variable {X : Cx} {xs : XS} {wx : WX} {pos : Pos}
def putAll (cs : List Str) (f : DE) : List Str → List U → DS
  | [], [], env, st => .nx env st
  | x :: ns, u :: us, env, st => (f env st).out env fun o st1 => match o with
    | .ref n => match st1[n]? with
      | some (.obj c fs) => if c ∈ cs ∧ fs.length < 1000 then putAll cs f ns us env (st1.set n (.obj c (putU x u fs))) else .bad
      | _ => .bad
    | _ => .bad
  | _, _, _, _ => .bad
def sFldT (cs : List Str) (ns : List Str) (f e : DE) : DS := fun env st => (e env st).out env fun v st1 => match v with
  | .tup us => if us.length = ns.length then putAll cs f ns us env st1 else .bad
  | _ => .bad
end
def kOfs : List U → Option (List Key)
  | [] => some []
  | u :: us => match kOf u, kOfs us with
    | some k, some l => some (k :: l)
    | _, _ => none
def keyT : U → Option (List Key)
  | .tup us => kOfs us
  | _ => none
def keysT : List U → Option (List (List Key))
  | [] => some []
  | u :: us => match keyT u, keysT us with
    | some k, some l => some (k :: l)
    | _, _ => none
theorem kOf_kU (k : Key) : kOf (kU k) = some k := by cases k <;> rfl
theorem kOfs_kU : ∀ k : List Key, kOfs (k.map kU) = some k
  | [] => rfl
  | x :: k => by rw [List.map_cons]; unfold kOfs; rw [kOf_kU, kOfs_kU k]
def findT (k : List Key) : List (List Key) → List U → Option U
  | j :: ks, u :: us => if j = k then some u else findT k ks us
  | _, _ => none
def dTof : U → Option (List (List Key) × List U)
  | .dct (k0 :: ks) us => (keysT (k0 :: ks)).map fun kk => (kk, us)
  | _ => none
/-- d.get((a, b), x) -/
def getTD (f : DE) (ka : DA) (g : DE) : DE := fun env st => (f env st).bind fun u st1 => match dTof u with
  | some (kk, us) => (ka env st1).bind fun key st2 => if key.length ≤ sizeLine then (g env st2).bind fun d st3 => match kOfs key with
    | some k => .ok ((findT k kk us).getD d) st3
    | none => .bad
    else .bad
  | none => .bad
section
variable {X : Cx} {xs : XS} {wx : WX} {pos : Pos}
def keyedT : List (List U × U) → Option (List (List Key × U))
  | [] => some []
  | p :: r => match kOfs p.1, keyedT r with
    | some k, some l => some ((k, p.2) :: l)
    | _, _ => none
def dispTU (l : List (List U × U)) : Option U := (keyedT l).bind fun kvs => if (kvs.length ≤ 15 ∧ (kvs.map (·.1)).Nodup) ∧ kvs ≠ [] then some (.dct (kvs.map fun p => .tup (p.1.map kU)) (kvs.map (·.2))) else none
def pairsT : List (DA × DE) → Env → Store → Rs (List (List U × U))
  | [], _, st => .ok [] st
  | p :: r, env, st => (p.1 env st).bind fun k st1 => if k.length ≤ sizeLine then (p.2 env st1).bind fun v st2 => (pairsT r env st2).bind fun l st3 => .ok ((k, v) :: l) st3 else .bad
def dispT (ps : List (DA × DE)) : DE := fun env st => (noEx (pairsT ps env st)).bind fun l st1 => Rs.of (dispTU l) st1
end
@[simp] theorem getTD_ap (f : DE) (ka : DA) (g : DE) (env : Env) (st : Store) : getTD f ka g env st = (f env st).bind fun u st1 => match dTof u with
  | some (kk, us) => (ka env st1).bind fun key st2 => if key.length ≤ 16777216 then (g env st2).bind fun d st3 => match kOfs key with
    | some k => .ok ((findT k kk us).getD d) st3
    | none => .bad
    else .bad
  | none => .bad := by rw [← sizeLine_val]; rfl
@[simp] theorem sFldT_ap (cs ns : List Str) (f e : DE) (env : Env) (st : Store) : sFldT cs ns f e env st = (e env st).out env fun v st1 => match v with
  | .tup us => if us.length = ns.length then putAll cs f ns us env st1 else .bad
  | _ => .bad := (rfl)
@[simp] theorem dispT_ap (ps : List (DA × DE)) (env : Env) (st : Store) : dispT ps env st = (noEx (pairsT ps env st)).bind fun l st1 => Rs.of (dispTU l) st1 := (rfl)
theorem units1 {k : Nat} {A : Around} (hr : Room k A) : A.units + 1 < cLine := by have := hr.un; omega
end D
namespace D
open PySem L2
def der1 (st : Store) : U → U
  | .ref n => match st[n]? with
    | some (.lst us) => .lst us
    | _ => .ref n
  | u => u
mutual
def tupU : U → Bool
  | .non => true
  | .bl _ => true
  | .int _ => true
  | .str _ => true
  | .tup us => tupUs us
  | _ => false
def tupUs : List U → Bool
  | [] => true
  | u :: us => tupU u && tupUs us
end
/-- f(..), lists of the store lent as plain data; what is told is made of tuples -/
def appV (g : List U → Store → Rs U) (fa : DA) : DE := fun env st => (fa env st).bind fun us st1 => if noRefs (us.map (der1 st1)) = true then match g (us.map (der1 st1)) [] with
  | .ok u [] => if tupU u = true then .ok u st1 else .bad
  | _ => .bad
  else .bad
/-- a op b of lists of the store -/
def binV (g : U → U → Option U) (a b : DE) : DE := fun env st => (a env st).bind fun u st1 => (b env st1).bind fun v st2 => if noRef (der1 st2 u) = true ∧ noRef (der1 st2 v) = true then Rs.of (flat1 (g (der1 st2 u) (der1 st2 v))) st2 else .bad
/-- tuple(list of the store) -/
def tupR (f : DE) : DE := fun env st => (f env st).bind fun u st1 => match u with
  | .ref n => match st1[n]? with
    | some (.lst us) => .ok (.tup us) st1
    | _ => .bad
  | _ => .bad
def sAppR (f g : DE) : DS := fun env st => (f env st).out env fun u st1 => match u with
  | .ref n => match st1[n]? with
    | some (.lst _) => (g env st1).out env fun v st2 => match st2[n]? with
      | some (.lst us) => if us.length < sizeLine then .nx env (st2.set n (.lst (us ++ [v]))) else .bad
      | _ => .bad
    | _ => .bad
  | _ => .bad
/-- o.pop(i) -/
def popR (f g : DE) : DE := fun env st => (f env st).bind fun u st1 => match u with
  | .ref n => match st1[n]? with
    | some (.lst _) => (g env st1).bind fun v st2 => match v, st2[n]? with
      | .int i, some (.lst us) => if -(2 ^ 63) ≤ i ∧ i < 2 ^ 63 then match seqIndex? i us.length with
        | some k => match us[k]? with
          | some y => .ok y (st2.set n (.lst (us.eraseIdx k)))
          | none => .bad
        | none => .bad
        else .bad
      | _, _ => .bad
    | _ => .bad
  | _ => .bad
section
variable {K : PySem.W.Frag} {F G : Addr → Prop} {io : List Addr} {st : Store} {H : Hp}
/-- an object turns under an expression -/
theorem Ok.turnOb (f : Ok K G io st H) {n : Nat} {ob ob' : Ob} {o' : HO} {a : Addr} (h1 : st[n]? = some ob) (h2 : io[n]? = some a) (hx : NX o')
    (new : Mono G io H G io (upd H a o') → ObRep K (Wf G io) io (upd H a o') a ob') : Ok K G io (st.set n ob') (upd H a o') ∧ Ext io H io (upd H a o') := by
  have ha : a ∈ io := List.mem_of_getElem? h2
  have hn : n < st.length := (List.getElem?_eq_some_iff.mp h1).1
  have keep : ∀ b o, b ≠ a → H b = some o → (upd H a o') b = some o := fun b o q h => by rw [upd_ne q]; exact h
  have ex : Ext io H io (upd H a o') := ⟨⟨[], by simp, fun _ h => nomatch h⟩, fun b o q h => keep b o (fun e => q (e ▸ ha)) h, fun b o h => by
    by_cases e : b = a
    · subst e; exact ⟨_, upd_same⟩
    · exact ⟨o, keep b o e h⟩⟩
  have m := ex.mono (G := G)
  have nxa : ∀ (dd : Addr) (ws : List (Str × V)), H dd = some (.xd ws) → dd ≠ a := fun dd ws z e => by
    subst e
    obtain ⟨o, e1, x⟩ := f.trk dd (.inr ha)
    rw [z] at e1; cases e1; exact x ws rfl
  refine ⟨⟨f.nd, f.dj, fun b h => ?_, by simp [f.len], fun k ob b e1 e2 => ?_⟩, ex⟩
  · obtain ⟨o, e, x⟩ := f.trk b h
    by_cases hb : b = a
    · subst hb; exact ⟨_, upd_same, hx⟩
    · exact ⟨o, keep b o hb e, x⟩
  · by_cases hk : n = k
    · subst hk
      rw [List.getElem?_set_self hn] at e1
      rw [h2] at e2
      cases e1; cases e2
      exact new m
    · rw [List.getElem?_set_ne hk] at e1
      have nb : b ≠ a := fun e => by
        subst e
        exact hk ((List.getElem?_inj (List.getElem?_eq_some_iff.mp h2).1 f.nd).mp (h2.trans e2.symm))
      exact (f.obs k ob b e1 e2).mono m (fun u q => keep b u nb q) fun dd ws q => keep dd _ (nxa dd ws q) q
end
section
variable {X : Cx} {xs : XS} {wx : WX} {pos : Pos}
theorem s_appR {o e : Expr} {f g : DE} {p1 : Pos} (ho : PE X o (tD X.K xs wx f)) (he : PE X e (tD X.K xs wx g)) (hbase : attributeBase o "append" X.env (eval o X.env) = eval o X.env := by rfl)
    (hfew : ((backTo pos (starEach [e] X.env)).all (fun x => !x.1) && (backToKw pos (keywordEach [] X.env)).all (fun x => x.1.isSome) && decide ([e].length + ([] : List Keyword).length + (if ([] : List Keyword).isEmpty then 0 else 1) < 30)) = true := by rfl)
    (hline : (p1.endLine == pos.line) = true := by rfl) (hs : starEach (e :: []) X.env = (false, eval e X.env) :: starEach [] X.env := by rfl) (hplain : (backTo pos (starEach [] X.env)).any (·.1) = false := by rfl)
    (hsw : swapsWith (.Call (.Attribute o "append" p1) [e] [] pos) none pos.line X.env = Pure.pure false := by rfl) {pos2 : Pos} :
    PS X (.Expr (.Call (.Attribute o "append" p1) [e] [] pos) pos2) (tDS X.K xs wx (sAppR f g)) := by
  refine ps_imp (ps_expr (pe_bm PySem.F.plainAttrs_list PySem.F.slot_list_append PySem.F.type_list_append mt_append ho (pa_cons he pa_nil hs) hbase hfew hline hs hplain) hsw) fun D sg H h => ?_
  obtain ⟨F, io, st, env, fr, w⟩ := h
  refine ⟨Gs F env sg, io, st, env, fr.ok, fr.er, (WantsS.expr fr w).impR fun st1 io1 H1 u ok1 e1 z x rx => ?_⟩
  have z1 := z.2
  cases u with
  | ref n =>
    simp only at z1
    split at z1
    · rename_i us0 hus0
      obtain ⟨a, vs0, rfl, q1, q2, q3⟩ := ref_list ok1 hus0 rx
      refine ⟨.inl ⟨rfl, vs0, .inl (.inl q2)⟩, Gs F env sg, io1, st1, env, z.1.ok, z.1.er, (WantsS.expr z.1 z1).impR fun st2 io2 H2 u2 ok2 e2 z2 y ry => ?_⟩
      have z3 := z2.2
      split at z3
      · rename_i us hus
        split at z3
        · rename_i hl
          obtain ⟨a', vs, ea, p1, p2, p3⟩ := ref_list ok2 hus (rx.ext e2)
          cases ea
          refine ⟨a, vs, y, rfl, rfl, p2, by rw [← p3.length]; exact hl, ?_⟩
          have t := z2.1.turnRef hus p1 (p3.append (.cons ry .nil))
          exact z3 io2 _ _ t.1 t.2
        · exact z3.elim
      · exact z3.elim
    · exact z1.elim
  | _ => exact z1.elim
end
end D
namespace D
open PySem L2
/-- {} of the store -/
def refD0 : DE := fun _ st => .ok (.ref st.length) (st ++ [.dct [] []])
def kvsOf (ks us : List U) : Option (List (Key × U)) := if ks.length = us.length then (kOfs ks).map fun kk => kk.zip us else none
def mkOb (kvs : List (Key × U)) : Ob := .dct (kvs.map fun p => kU p.1) (kvs.map (·.2))
def valG (kvs : List (Key × U)) (k : Key) : Option U := (kvs.find? fun kv => decide (kv.1 = k)).map (·.2)
/-- o[k] = v -/
def sDPut (f g e : DE) : DS := fun env st => (e env st).out env fun v st1 => (f env st1).out env fun u st2 => (g env st2).out env fun k st3 => match u with
  | .ref n => match st3[n]?, kOf k with
    | some (.dct ks us), some kk => match kvsOf ks us with
      | some kvs => if kvs.length < sizeLine then .nx env (st3.set n (mkOb (putG kvs kk v))) else .bad
      | none => .bad
    | _, _ => .bad
  | _ => .bad
def lenDR (f : DE) : DE := fun env st => (f env st).bind fun u st1 => match u with
  | .ref n => match st1[n]? with
    | some (.dct ks _) => .ok (.int ks.length) st1
    | _ => .bad
  | _ => .bad
section
variable {K : PySem.W.Frag} {G : Addr → Prop} {W : Addr → Prop} {io : List Addr} {st : Store} {H : Hp}
theorem kvs_rep : ∀ {kvs : List (Key × V)} {us : List U}, Reps K W io H us (kvs.map (·.2)) → KR K W io H ((kvs.map (·.1)).zip us) kvs
  | [], us, r => by
    have : us = [] := List.eq_nil_of_length_eq_zero (by have := r.length; simpa using this)
    subst this; exact .nil
  | p :: kvs, us, r => by
    cases us with
    | nil => have := r.length; simp at this
    | cons u us =>
      rw [List.map_cons] at r
      obtain ⟨v, t, e, r1, r2⟩ := r.uncons
      cases e
      exact .cons ⟨rfl, r1⟩ (kvs_rep r2)
theorem ref_dct {n : Nat} {ks us : List U} {v : V} (ok : Ok K G io st H) (h : st[n]? = some (.dct ks us)) (r : Rep K (Wf G io) io H (.ref n) v) : ∃ a kvs, v = .ref a ∧ io[n]? = some a ∧ H a = some (.dK kvs) ∧ ks.length = kvs.length ∧ ∃ gs, kvsOf ks us = some gs ∧ KR K (Wf G io) io H gs kvs := by
  unfold Rep at r
  obtain ⟨a, e1, rfl⟩ := r
  obtain ⟨kvs, q1, q2, q3⟩ := ok.obs n _ a h e1
  have l : ks.length = us.length := by rw [q2, List.length_map, q3.length, List.length_map]
  refine ⟨a, kvs, rfl, e1, q1, by rw [q2, List.length_map], (kvs.map (·.1)).zip us, ?_, kvs_rep q3⟩
  unfold kvsOf
  rw [if_pos l, q2, show (kvs.map fun p => kU p.1) = (kvs.map (·.1)).map kU by rw [List.map_map]; rfl, kOfs_kU]
  rfl
theorem KR.val {k : Key} : ∀ {a : List (Key × U)} {b : List (Key × V)}, KR K W io H a b → match valV b k with
    | some v => ∃ u, valG a k = some u ∧ Rep K W io H u v
    | none => valG a k = none
  | _, _, .nil => rfl
  | _, _, .cons (a := p) (b := q) h t => by
    by_cases e : q.1 = k
    · rw [valV_pos e]
      refine ⟨p.2, ?_, h.2⟩
      unfold valG
      rw [List.find?_cons, h.1, decide_eq_true e]
      rfl
    · rw [valV_neg e]
      have := KR.val (k := k) t
      have ee : ∀ r, valG (p :: r) k = valG r k := fun r => by
        unfold valG
        rw [List.find?_cons, h.1, decide_eq_false e]
      rw [ee]
      exact this
end
section
variable {X : Cx} {xs : XS} {wx : WX} {pos : Pos}
theorem d_refD0 : PE X (.Dict [] [] pos) (tD X.K xs wx refD0) := pe_imp pe_dnewK fun sg H Q h p hp => by
  obtain ⟨G, io, st, env, ok, er, w⟩ := h
  obtain ⟨ok2, e2⟩ := ok.alloc (o := .dK []) (ob := .dct [] []) hp nx_dK ⟨[], upd_same, rfl, .nil⟩
  have w' : Wants X.K G io H (fun _ io' H' u => ∀ v, Rep X.K (Wf G io') io' H' u v → Q v H') (XW xs wx sg) (.ok (.ref st.length) (st ++ [.dct [] []])) := w
  refine w' (io ++ [p]) _ ok2 e2 (.ref p) ?_
  unfold Rep
  exact ⟨p, by rw [ok.len, List.getElem?_append_right (Nat.le_refl _)]; simp, rfl⟩
end
def splitL (f g : DE) : DL := fun env st => (f env st).bind fun u st1 => match u with
  | .str a => (g env st1).bind fun v st2 => match v with
    | .str b => if (b.length == 0) = false ∧ a.length + 2 ≤ sizeLine then .ok ((Txt.split a b).map U.str) st2 else .bad
    | _ => .bad
  | _ => .bad
def cntD (f g : DE) : DE := fun env st => (f env st).bind fun u st1 => match u with
  | .lst us => (g env st1).bind fun v st2 => match strsU us, v with
    | some ws, .str k => .ok (.int (ws.count k : Nat)) st2
    | _, _ => .bad
  | _ => .bad
end D
namespace D
open PySem L2
section
variable {X : Cx} {xs : XS} {wx : WX} {pos : Pos} {tg : Expr}
/-- what of the slots is plain -/
def viewE (env : Env) : Env := env.map fun s => match s with
  | .val u => if noRef u = true then .val u else .un
  | _ => .un
/-- [e for t in o if c], o a list of the store, with flat items -/
def compV (f : DE) (vs : List Nat) (t : Tg) (c : DT) (e : DE) : DL := fun env st => (f env st).bind fun u st1 => match u with
  | .ref n => match st1[n]? with
    | some (.lst us) => if us.length ≤ sizeLine ∧ noRefs us = true then match noEx (compL t c e us (wipeE (viewE env) vs) []) with
      | .ok ws [] => if ws.all flatU = true then .ok ws st1 else .bad
      | _ => .bad
      else .bad
    | _ => .bad
  | _ => .bad
end
@[simp] theorem appV_ap (g : List U → Store → Rs U) (fa : DA) (env : Env) (st : Store) : appV g fa env st = (fa env st).bind fun us st1 => if noRefs (us.map (der1 st1)) = true then match g (us.map (der1 st1)) [] with
  | .ok u [] => if tupU u = true then .ok u st1 else .bad
  | _ => .bad
  else .bad := (rfl)
@[simp] theorem binV_ap (g : U → U → Option U) (a b : DE) (env : Env) (st : Store) : binV g a b env st = (a env st).bind fun u st1 => (b env st1).bind fun v st2 => if noRef (der1 st2 u) = true ∧ noRef (der1 st2 v) = true then Rs.of (flat1 (g (der1 st2 u) (der1 st2 v))) st2 else .bad := (rfl)
@[simp] theorem tupR_ap (f : DE) (env : Env) (st : Store) : tupR f env st = (f env st).bind fun u st1 => match u with
  | .ref n => match st1[n]? with
    | some (.lst us) => .ok (.tup us) st1
    | _ => .bad
  | _ => .bad := (rfl)
@[simp] theorem sAppR_ap (f g : DE) (env : Env) (st : Store) : sAppR f g env st = (f env st).out env fun u st1 => match u with
  | .ref n => match st1[n]? with
    | some (.lst _) => (g env st1).out env fun v st2 => match st2[n]? with
      | some (.lst us) => if us.length < 16777216 then .nx env (st2.set n (.lst (us ++ [v]))) else .bad
      | _ => .bad
    | _ => .bad
  | _ => .bad := by rw [← sizeLine_val]; rfl
@[simp] theorem popR_ap (f g : DE) (env : Env) (st : Store) : popR f g env st = (f env st).bind fun u st1 => match u with
  | .ref n => match st1[n]? with
    | some (.lst _) => (g env st1).bind fun v st2 => match v, st2[n]? with
      | .int i, some (.lst us) => if -(2 ^ 63) ≤ i ∧ i < 2 ^ 63 then match seqIndex? i us.length with
        | some k => match us[k]? with
          | some y => .ok y (st2.set n (.lst (us.eraseIdx k)))
          | none => .bad
        | none => .bad
        else .bad
      | _, _ => .bad
    | _ => .bad
  | _ => .bad := (rfl)
@[simp] theorem refD0_ap (env : Env) (st : Store) : refD0 env st = .ok (.ref st.length) (st ++ [.dct [] []]) := (rfl)
@[simp] theorem sDPut_ap (f g e : DE) (env : Env) (st : Store) : sDPut f g e env st = (e env st).out env fun v st1 => (f env st1).out env fun u st2 => (g env st2).out env fun k st3 => match u with
  | .ref n => match st3[n]?, kOf k with
    | some (.dct ks us), some kk => match kvsOf ks us with
      | some kvs => if kvs.length < 16777216 then .nx env (st3.set n (mkOb (putG kvs kk v))) else .bad
      | none => .bad
    | _, _ => .bad
  | _ => .bad := by rw [← sizeLine_val]; rfl
@[simp] theorem lenDR_ap (f : DE) (env : Env) (st : Store) : lenDR f env st = (f env st).bind fun u st1 => match u with
  | .ref n => match st1[n]? with
    | some (.dct ks _) => .ok (.int ks.length) st1
    | _ => .bad
  | _ => .bad := (rfl)
@[simp] theorem splitL_ap (f g : DE) (env : Env) (st : Store) : splitL f g env st = (f env st).bind fun u st1 => match u with
  | .str a => (g env st1).bind fun v st2 => match v with
    | .str b => if (b.length == 0) = false ∧ a.length + 2 ≤ 16777216 then .ok ((Txt.split a b).map U.str) st2 else .bad
    | _ => .bad
  | _ => .bad := by rw [← sizeLine_val]; rfl
@[simp] theorem cntD_ap (f g : DE) (env : Env) (st : Store) : cntD f g env st = (f env st).bind fun u st1 => match u with
  | .lst us => (g env st1).bind fun v st2 => match strsU us, v with
    | some ws, .str k => .ok (.int (ws.count k : Nat)) st2
    | _, _ => .bad
  | _ => .bad := (rfl)
@[simp] theorem compV_ap (f : DE) (vs : List Nat) (t : Tg) (c : DT) (e : DE) (env : Env) (st : Store) : compV f vs t c e env st = (f env st).bind fun u st1 => match u with
  | .ref n => match st1[n]? with
    | some (.lst us) => if us.length ≤ 16777216 ∧ noRefs us = true then match noEx (compL t c e us (wipeE (viewE env) vs) []) with
      | .ok ws [] => if ws.all flatU = true then .ok ws st1 else .bad
      | _ => .bad
      else .bad
    | _ => .bad
  | _ => .bad := by rw [← sizeLine_val]; rfl
end D
namespace D
open PySem L2
theorem zip_drop_cons {xs ys : List Value} {j : Nat} {p : Value × Value} {rest : List (Value × Value)} (h : p :: rest = (xs.zip ys).drop j) : ∃ (h1 : j < xs.length) (h2 : j < ys.length), p = (xs[j], ys[j]) ∧ rest = (xs.zip ys).drop (j + 1) := by
  have hl : j < (xs.zip ys).length := by
    have := congrArg List.length h
    simp only [List.length_cons, List.length_drop] at this
    omega
  rw [List.drop_eq_getElem_cons hl] at h
  have h1 : j < xs.length := by rw [List.length_zip] at hl; omega
  have h2 : j < ys.length := by rw [List.length_zip] at hl; omega
  injection h with a b
  exact ⟨h1, h2, by rw [a, List.getElem_zip], b⟩
theorem all_false {e : Nat → Bool} {n j : Nat} (h : j < n) (he : e j = false) : (List.range n).all e = false := by
  rw [← Bool.not_eq_true]
  intro z
  rw [List.all_eq_true] at z
  rw [z j (List.mem_range.mpr h)] at he; cases he
theorem tupP_eq {prog : Program} {w : World} (l b : Addr) (items items2 : Array Value) (n n2 : Nat) (dd dd2 : Option Addr) (sl sl2 : Array (Option Value)) (e : Nat → Bool) :
    MeetsIn prog w (Builtin.«tuple.__eq__» { pos := [Value.ref l, Value.ref b] }) fun A R s =>
    s.heap.get? l = some { cls := Value.type "tuple", dict := dd, data := Data.seq items n, slots := sl } ∧
      s.heap.get? b = some { cls := Value.type "tuple", dict := dd2, data := Data.seq items2 n2, slots := sl2 } ∧
        (∀ (j : Nat) (h1 : j < items.size) (h2 : j < items2.size), SeqAt.EqP prog w A.in1 s items[j] items2[j] (e j)) ∧
          R (Except.ok (Flow.ret (Value.bool ((List.range (min items.size items2.size)).all e && items.size == items2.size)))) s := by
  intro A R s ⟨h1, h2, h3, h4⟩
  refine wpAny_bind ?_
  refine wpAny_of_eq (show slotArgs "__eq__" 1 { pos := [Value.ref l, Value.ref b] } = pure (Value.ref l, [Value.ref b]) from rfl) ?_
  refine wpAny_bind (wpAny_isInstance (T := "tuple") ⟨_, h2, rfl⟩ PySem.AutoSeq1.sub_tuple_tuple ?_)
  refine wpAny_ite_false (by decide) ?_
  refine wpAny_bind (wpAny_bind (wpAny_seqItems h1 rfl ?_))
  refine wpAny_pure ?_
  refine wpAny_bind (wpAny_bind (wpAny_seqItems h2 rfl ?_))
  refine wpAny_pure ?_
  refine wpAny_bind ?_
  refine wpAny_forIn_list _ (fun rest q s' => s' = s ∧ q = (none, ()) ∧ ∃ j, rest = (items.toList.zip items2.toList).drop j ∧ ∀ k < j, e k = true) _ ?_ ?_ _ _ ⟨rfl, rfl, 0, rfl, fun _ z => absurd z (Nat.not_lt_zero _)⟩
  · rintro p rest q s' ⟨rfl, rfl, j, hr, hj⟩
    obtain ⟨l1, l2, rfl, hr'⟩ := zip_drop_cons hr
    have l1' : j < items.size := by simpa using l1
    have l2' : j < items2.size := by simpa using l2
    refine wpAny_bind (h3 j l1' l2' _ _ ?_)
    cases he : e j with
    | true =>
      refine wpAny_ite_false (by decide) ?_
      refine wpAny_pure ?_
      refine ⟨rfl, rfl, j + 1, hr', fun k hk => ?_⟩
      rcases Nat.lt_succ_iff_lt_or_eq.mp hk with z | z
      · exact hj k z
      · rw [z]; exact he
    | false =>
      refine wpAny_ite_true (by decide) ?_
      refine wpAny_bind (wpAny_pure ?_)
      refine wpAny_pure ?_
      refine wpAny_pure ?_
      rw [all_false (by omega) he] at h4
      exact h4
  · rintro q s' ⟨rfl, rfl, j, hr, hj⟩
    refine wpAny_pure ?_
    have hz : min items.size items2.size ≤ j := by
      have := congrArg List.length hr
      simp at this
      omega
    have ha : (List.range (min items.size items2.size)).all e = true := by
      rw [List.all_eq_true]
      exact fun k hk => hj k (by have := List.mem_range.mp hk; omega)
    rw [ha] at h4
    exact h4
theorem tupP_ne {prog : Program} {w : World} (l b : Addr) (items items2 : Array Value) (n n2 : Nat) (dd dd2 : Option Addr) (sl sl2 : Array (Option Value)) (e : Nat → Bool) :
    MeetsIn prog w (Builtin.«tuple.__ne__» { pos := [Value.ref l, Value.ref b] }) fun A R s =>
    s.heap.get? l = some { cls := Value.type "tuple", dict := dd, data := Data.seq items n, slots := sl } ∧
      s.heap.get? b = some { cls := Value.type "tuple", dict := dd2, data := Data.seq items2 n2, slots := sl2 } ∧
        (∀ (j : Nat) (h1 : j < items.size) (h2 : j < items2.size), SeqAt.EqP prog w A.in1 s items[j] items2[j] (e j)) ∧
          R (Except.ok (Flow.ret (Value.bool (!((List.range (min items.size items2.size)).all e && items.size == items2.size))))) s := by
  intro A R s ⟨h1, h2, h3, h4⟩
  refine wpAny_bind ?_
  refine wpAny_of_eq (show slotArgs "__ne__" 1 { pos := [Value.ref l, Value.ref b] } = pure (Value.ref l, [Value.ref b]) from rfl) ?_
  refine wpAny_bind (wpAny_isInstance (T := "tuple") ⟨_, h2, rfl⟩ PySem.AutoSeq1.sub_tuple_tuple ?_)
  refine wpAny_ite_false (by decide) ?_
  refine wpAny_bind (wpAny_bind (wpAny_seqItems h1 rfl ?_))
  refine wpAny_pure ?_
  refine wpAny_bind (wpAny_bind (wpAny_seqItems h2 rfl ?_))
  refine wpAny_pure ?_
  refine wpAny_bind ?_
  refine wpAny_forIn_list _ (fun rest q s' => s' = s ∧ q = (none, ()) ∧ ∃ j, rest = (items.toList.zip items2.toList).drop j ∧ ∀ k < j, e k = true) _ ?_ ?_ _ _ ⟨rfl, rfl, 0, rfl, fun _ z => absurd z (Nat.not_lt_zero _)⟩
  · rintro p rest q s' ⟨rfl, rfl, j, hr, hj⟩
    obtain ⟨l1, l2, rfl, hr'⟩ := zip_drop_cons hr
    have l1' : j < items.size := by simpa using l1
    have l2' : j < items2.size := by simpa using l2
    refine wpAny_bind (h3 j l1' l2' _ _ ?_)
    cases he : e j with
    | true =>
      refine wpAny_ite_false (by decide) ?_
      refine wpAny_pure ?_
      refine ⟨rfl, rfl, j + 1, hr', fun k hk => ?_⟩
      rcases Nat.lt_succ_iff_lt_or_eq.mp hk with z | z
      · exact hj k z
      · rw [z]; exact he
    | false =>
      refine wpAny_ite_true (by decide) ?_
      refine wpAny_bind (wpAny_pure ?_)
      refine wpAny_pure ?_
      refine wpAny_pure ?_
      rw [all_false (by omega) he] at h4
      exact h4
  · rintro q s' ⟨rfl, rfl, j, hr, hj⟩
    refine wpAny_pure ?_
    have hz : min items.size items2.size ≤ j := by
      have := congrArg List.length hr
      simp at this
      omega
    have ha : (List.range (min items.size items2.size)).all e = true := by
      rw [List.all_eq_true]
      exact fun k hk => hj k (by have := List.mem_range.mp hk; omega)
    rw [ha] at h4
    exact h4
theorem loopP_ne {prog : Program} {w : World} (l b : Addr) (items items2 : Array Value) (n n2 : Nat) (dd dd2 : Option Addr) (sl sl2 : Array (Option Value)) (hz : items.size = items2.size) (e : Nat → Bool) : ∀ (k i : Nat), items.size - i = k →
    MeetsIn prog w (Builtin.«list.__eq__.loop» { pos := [Value.ref l, Value.ref b, rawInt (i : Nat), rawInt 3] }) fun A R s =>
      s.heap.get? l = some { cls := Value.type "list", dict := dd, data := Data.seq items n, slots := sl } ∧
        s.heap.get? b = some { cls := Value.type "list", dict := dd2, data := Data.seq items2 n2, slots := sl2 } ∧
          (∀ (j : Nat) (h1 : j < items.size) (h2 : j < items2.size), SeqAt.EqP prog w A.in1 s items[j] items2[j] (e j)) ∧
            R (Except.ok (Flow.ret (Value.bool (!((List.range items.size).drop i).all e)))) s := by
  intro k
  induction k with
  | zero =>
    intro i hi A R s ⟨h1, h2, h3, h4⟩
    have n1 : items[i]? = none := Array.getElem?_eq_none (by omega)
    have n2 : items2[i]? = none := Array.getElem?_eq_none (by omega)
    refine wpAny_bind (wpAny_bind (wpAny_seqItems h1 rfl (wpAny_pure ?_)))
    refine wpAny_bind (wpAny_bind (wpAny_seqItems h2 rfl (wpAny_pure ?_)))
    have e1 : ((i : Int).toNat) = i := by omega
    rw [List.drop_eq_nil_of_le (by rw [List.length_range]; omega)] at h4
    show wpAny _ _ (match (items[(i : Int).toNat]?, items2[(i : Int).toNat]?) with
      | (some _, some _) => _
      | _ => _) _ _ _
    rw [e1, n1, n2]
    refine wpAny_bind (wpAny_bind (wpAny_seqItems h1 rfl (wpAny_pure ?_)))
    refine wpAny_bind (wpAny_bind (wpAny_seqItems h2 rfl (wpAny_pure ?_)))
    refine wpAny_pure ?_
    rw [hz]
    show R (Except.ok (Flow.ret (Value.bool (items2.size != items2.size)))) s
    rw [bne_self_eq_false]
    exact h4
  | succ k ih =>
    intro i hi A R s ⟨h1, h2, h3, h4⟩
    have l1 : i < items.size := by omega
    have l2 : i < items2.size := by omega
    have n1 : items[i]? = some items[i] := Array.getElem?_eq_getElem l1
    have n2 : items2[i]? = some items2[i] := Array.getElem?_eq_getElem l2
    refine wpAny_bind (wpAny_bind (wpAny_seqItems h1 rfl (wpAny_pure ?_)))
    refine wpAny_bind (wpAny_bind (wpAny_seqItems h2 rfl (wpAny_pure ?_)))
    have e1 : ((i : Int).toNat) = i := by omega
    show wpAny _ _ (match (items[(i : Int).toNat]?, items2[(i : Int).toNat]?) with
      | (some _, some _) => _
      | _ => _) _ _ _
    rw [e1, n1, n2]
    refine wpAny_bind (h3 i l1 l2 _ _ ?_)
    have hd : (List.range items.size).drop i = i :: (List.range items.size).drop (i + 1) := by
      rw [List.drop_eq_getElem_cons (by simpa using l1)]; simp
    rw [hd] at h4
    cases he : e i with
    | true =>
      refine wpAny_ite_true rfl ?_
      refine wpAny_pure ⟨plainId_quiet MeetsSeq3.plain_eq_loop _, ?_⟩
      refine codeAny_builtin MeetsSeq3.entry_eq_loop ?_
      rw [Around.under_plainId MeetsSeq3.plain_eq_loop]
      refine ih (i + 1) (by omega) A R s ⟨h1, h2, h3, ?_⟩
      rw [List.all_cons, he, Bool.true_and] at h4
      exact h4
    | false =>
      refine wpAny_ite_false (by decide) ?_
      refine wpAny_bind (wpAny_bind (wpAny_seqItems h1 rfl (wpAny_pure ?_)))
      refine wpAny_bind (wpAny_bind (wpAny_seqItems h2 rfl (wpAny_pure ?_)))
      rw [n1, n2]
      refine wpAny_pure ?_
      rw [List.all_cons, he, Bool.false_and] at h4
      exact h4
theorem listP_ne {prog : Program} {w : World} (l b : Addr) (items items2 : Array Value) (n n2 : Nat) (dd dd2 : Option Addr) (sl sl2 : Array (Option Value)) (hz : items.size = items2.size) (e : Nat → Bool) :
    MeetsIn prog w (Builtin.«list.__ne__» { pos := [Value.ref l, Value.ref b] }) fun A R s =>
      s.heap.get? l = some { cls := Value.type "list", dict := dd, data := Data.seq items n, slots := sl } ∧
        s.heap.get? b = some { cls := Value.type "list", dict := dd2, data := Data.seq items2 n2, slots := sl2 } ∧
          (∀ (j : Nat) (h1 : j < items.size) (h2 : j < items2.size), SeqAt.EqP prog w A.in1 s items[j] items2[j] (e j)) ∧
            R (Except.ok (Flow.ret (Value.bool (!(List.range items.size).all e)))) s := by
  intro A R s ⟨h1, h2, h3, h4⟩
  refine wpAny_bind ?_
  refine wpAny_of_eq (show slotArgs "__ne__" 1 { pos := [Value.ref l, Value.ref b] } = pure (Value.ref l, [Value.ref b]) from rfl) ?_
  refine wpAny_bind (wpAny_isInstance (T := "list") ⟨_, h2, rfl⟩ PySem.AutoSeq1.sub_list_list ?_)
  refine wpAny_ite_false (by decide) ?_
  refine wpAny_ite_true (by decide) ?_
  refine wpAny_bind (wpAny_bind (wpAny_seqItems h1 rfl (wpAny_pure ?_)))
  refine wpAny_bind (wpAny_bind (wpAny_seqItems h2 rfl (wpAny_pure ?_)))
  refine wpAny_ite_false (by rw [hz]; simp) ?_
  refine wpAny_pure ⟨plainId_quiet MeetsSeq3.plain_eq_loop _, ?_⟩
  refine codeAny_builtin MeetsSeq3.entry_eq_loop ?_
  rw [Around.under_plainId MeetsSeq3.plain_eq_loop]
  exact loopP_ne l b items items2 n n2 dd dd2 sl sl2 hz e _ 0 rfl A R s ⟨h1, h2, h3, h4⟩
abbrev RcP (prog : Program) (w : World) (op : CmpOp) (A : Around) (s : Shared) (v u : Value) (b : Bool) : Prop :=
  ∀ (E Q : Value → Shared → Prop), Q (Value.bool b) s → wpAny (model prog w) A (richCompare op v u) Q E s
section
variable {prog : Program} {w : World} {A : Around} {s : Shared} {l b : Addr} {items items2 : Array Value} {e : Nat → Bool}
theorem rcP_tupEq (h1 : s.heap.IsTuple l items) (h2 : s.heap.IsTuple b items2) (hu : A.units < cLine) (h : ∀ (j : Nat) (h1 : j < items.size) (h2 : j < items2.size), SeqAt.EqP prog w A.in1 s items[j] items2[j] (e j)) :
    RcP prog w .Eq A s (.ref l) (.ref b) ((List.range (min items.size items2.size)).all e && items.size == items2.size) := by
  intro E Q q
  obtain ⟨⟨c, d, dt, sl⟩, g1, rfl, n, rfl⟩ := h1
  obtain ⟨⟨c2, d2, dt2, sl2⟩, g2, rfl, n2, rfl⟩ := h2
  refine wpAny_richCompare_same_room (T := "tuple") ⟨_, g1, rfl⟩ ⟨_, g2, rfl⟩ F.slot_tuple_eq ?_ hu
  exact call_meetsIn F.slot_tuple_eq ⟨_, g1, rfl⟩ F.entry_tuple_eq (F.args_tuple_eq_2 _ _) (tupP_eq l b items items2 n n2 d d2 sl sl2 e) ⟨g1, g2, h, (fun z => nomatch z), q⟩
theorem rcP_tupNe (h1 : s.heap.IsTuple l items) (h2 : s.heap.IsTuple b items2) (hu : A.units < cLine) (h : ∀ (j : Nat) (h1 : j < items.size) (h2 : j < items2.size), SeqAt.EqP prog w A.in1 s items[j] items2[j] (e j)) :
    RcP prog w .NotEq A s (.ref l) (.ref b) (!((List.range (min items.size items2.size)).all e && items.size == items2.size)) := by
  intro E Q q
  obtain ⟨⟨c, d, dt, sl⟩, g1, rfl, n, rfl⟩ := h1
  obtain ⟨⟨c2, d2, dt2, sl2⟩, g2, rfl, n2, rfl⟩ := h2
  refine wpAny_richCompare_same_room (T := "tuple") ⟨_, g1, rfl⟩ ⟨_, g2, rfl⟩ F.slot_tuple_ne ?_ hu
  exact call_meetsIn F.slot_tuple_ne ⟨_, g1, rfl⟩ F.entry_tuple_ne (F.args_tuple_ne_2 _ _) (tupP_ne l b items items2 n n2 d d2 sl sl2 e) ⟨g1, g2, h, (fun z => nomatch z), q⟩
theorem rcP_lstNe (h1 : s.heap.IsList l items) (h2 : s.heap.IsList b items2) (hz : items.size = items2.size) (hu : A.units < cLine) (h : ∀ (j : Nat) (h1 : j < items.size) (h2 : j < items2.size), SeqAt.EqP prog w A.in1 s items[j] items2[j] (e j)) :
    RcP prog w .NotEq A s (.ref l) (.ref b) (!(List.range items.size).all e) := by
  intro E Q q
  obtain ⟨⟨c, d, dt, sl⟩, g1, rfl, n, rfl⟩ := h1
  obtain ⟨⟨c2, d2, dt2, sl2⟩, g2, rfl, n2, rfl⟩ := h2
  refine wpAny_richCompare_same_room (T := "list") ⟨_, g1, rfl⟩ ⟨_, g2, rfl⟩ F.slot_list_ne ?_ hu
  exact call_meetsIn F.slot_list_ne ⟨_, g1, rfl⟩ F.entry_list_ne (F.args_list_ne_2 _ _) (listP_ne l b items items2 n n2 d d2 sl sl2 hz e) ⟨g1, g2, h, (fun z => nomatch z), q⟩
theorem rcP_dictNe {K : Type} [DecidableEq K] {knd : KeyKind prog w K} {ka kb : List (K × Value)} {r : Bool} (n1 : (l == sysModules) = false) (n2 : (b == sysModules) = false) (h1 : Heap.DictOf knd s.heap l ka) (h2 : Heap.DictOf knd s.heap b kb) (hu : A.units < cLine)
    (h : ka.length = kb.length → W.KeqHitsP prog w A.in1 s kb ka r) : RcP prog w .NotEq A s (.ref l) (.ref b) (!(ka.length == kb.length && r)) := by
  intro E Q q
  refine wpAny_richCompare_same_room (T := "dict") h1.typeIs h2.typeIs F.slot_dict_ne ?_ hu
  refine wpAny_call_entry F.slot_dict_ne h1.typeIs F.entry_dict_ne ?_ (F.args_dict_ne_2 _ _)
  refine wpAny_bind (wpAny_bind (wpAny_notOrdered_dict h1.typeIs ?_))
  refine wpAny_bind ?_
  refine wpAny_of_eq (show slotArgs "__ne__" 1 { pos := [Value.ref l, Value.ref b] } = pure (Value.ref l, [Value.ref b]) from rfl) ?_
  refine wpAny_pure ?_
  refine wpAny_bind (wpAny_isInstance h2.typeIs F.sub_dict_dict ?_)
  refine wpAny_ite_false (by decide) ?_
  refine wpAny_bind (wpAny_pure ?_)
  refine wpAny_bind (wpAny_pure ?_)
  refine wpAny_bind (W.samePairsP n1 n2 h1 h2 h ?_)
  refine wpAny_pure ⟨_, rfl, (fun z => nomatch z), ?_⟩
  have : ((ka.length == kb.length && r) == false) = !(ka.length == kb.length && r) := by cases (ka.length == kb.length && r) <;> rfl
  rw [this]
  exact q
end
end D
namespace D
open PySem L2
def eqD (f : U → U → Option Bool) (b : List (Key × U)) : List (Key × U) → Option Bool
  | [] => some true
  | p :: r => match valG b p.1 with
    | none => some false
    | some w => match f p.2 w, eqD f b r with
      | some a, some c => some (a && c)
      | _, _ => none
def eqG : Nat → U → U → Option Bool
  | 0, _, _ => none
  | n + 1, .tup us, .tup vs => (eqZ (eqG n) us vs).map (fun b => b && decide (us.length = vs.length))
  | n + 1, .lst us, .lst vs => if us.length = vs.length then eqZ (eqG n) us vs else some false
  | n + 1, .dct ks us, .dct ls ws => match kvsOf ks us, kvsOf ls ws with
    | some a, some b => if a.length = b.length then eqD (eqG n) b a else some false
    | _, _ => none
  | _ + 1, u, v => eqP u v
theorem eqG_mix (n : Nat) (u w : U) (h1 : ¬ ∃ us vs, u = .tup us ∧ w = .tup vs) (h2 : ¬ ∃ us vs, u = .lst us ∧ w = .lst vs) (h3 : ¬ ∃ ks us ls vs, u = .dct ks us ∧ w = .dct ls vs) : eqG (n + 1) u w = eqP u w := by
  unfold eqG
  split
  · rename_i h; cases h
  · exact (h1 ⟨_, _, rfl, rfl⟩).elim
  · exact (h2 ⟨_, _, rfl, rfl⟩).elim
  · exact (h3 ⟨_, _, _, _, rfl, rfl⟩).elim
  · rfl
section
variable {X : Cx} {pins : List (Addr × Obj)} {sg : L2.St} {H : Hp} {s : Shared} {W : Addr → Prop} {io : List Addr}
theorem kvs_of {kvs : List (Key × V)} {us : List U} (h : us.length = kvs.length) : kvsOf (kvs.map fun p => kU p.1) us = some ((kvs.map (·.1)).zip us) := by
  unfold kvsOf
  rw [if_pos (by rw [List.length_map, h]), show (kvs.map fun p => kU p.1) = (kvs.map (·.1)).map kU by rw [List.map_map]; rfl, kOfs_kU]
  rfl
/-- a dict as the heap has it -/
def DK (H : Hp) (a : Addr) (kvs : List (Key × V)) : Prop := Rd H a (.dK kvs) ∨ (H a = some (.dT []) ∧ kvs = [])
theorem DK.inj {a : Addr} {k1 k2 : List (Key × V)} (h1 : DK H a k1) (h2 : DK H a k2) : k1 = k2 := by
  rcases h1 with (h | ⟨o, h⟩) | ⟨h, rfl⟩ <;> rcases h2 with (g | ⟨o', g⟩) | ⟨g, rfl⟩ <;> rw [h] at g <;> first | (cases g; rfl) | cases g
theorem ld_dk {K : PySem.W.Frag} {a : Addr} {ks us : List U} {vs : List V} {g : List (Key × U)} (l : LD W H a ks vs) (r : Reps K W io H us vs) (hk : kvsOf ks us = some g) : ∃ kvs, DK H a kvs ∧ KR K W io H g kvs := by
  obtain ⟨_, ⟨kvs, h1, rfl, rfl⟩ | ⟨kvs, h1, rfl, rfl, hne⟩⟩ := l
  · have hl : us.length = kvs.length := by rw [r.length, List.length_map]
    rw [kvs_of hl] at hk
    cases hk
    exact ⟨kvs, .inl h1, kvs_rep r⟩
  · cases kvs with
    | cons p kvs =>
      unfold kvsOf at hk
      split at hk
      · rw [List.map_cons] at hk
        unfold kOfs kOf at hk
        cases hk
      · cases hk
    | nil =>
      have : us = [] := List.eq_nil_of_length_eq_zero (by rw [r.length]; rfl)
      subst this
      cases hk
      exact ⟨[], .inr ⟨h1, rfl⟩, .nil⟩
theorem dk_of (I : Inv X pins sg H s) {a : Addr} {kvs : List (Key × V)} (h : DK H a kvs) : ∃ va, KV kvs va ∧ Heap.DictOf (mixKind X.prog X.w) s.heap a va ∧ (a == sysModules) = false := by
  rcases h with h1 | ⟨h1, rfl⟩
  · have ho : ObjOk X.prog X.w H s.heap a (.dK kvs) := by
      rcases h1 with h | ⟨o, h⟩
      · exact I.hok a _ h
      · have := I.hok a _ h
        rw [ObjOk.eq_10] at this
        exact this.2
    rw [ObjOk.eq_3] at ho
    obtain ⟨_, hs, va, q1, q2⟩ := ho
    exact ⟨va, q1, q2, hs⟩
  · have ho := I.hok a _ h1
    rw [ObjOk.eq_4] at ho
    obtain ⟨_, hs, xs, p1, o, es, ep, g1, g2, g3, g4, g5⟩ := ho
    cases p1
    refine ⟨[], .nil, ⟨o, es, ep, g1, g2, g3, ?_, ?_, List.nodup_nil⟩, hs⟩
    · intro e he
      have : e ∈ es.toList := Array.mem_toList_iff.mpr he
      rw [g4] at this
      cases this
    · rw [g4]; exact .nil
theorem dk_nodup (I : Inv X pins sg H s) {a : Addr} {kvs : List (Key × V)} (h : DK H a kvs) : (kvs.map (·.1)).Nodup := by
  obtain ⟨va, q1, ⟨o, es, ep, _, _, _, _, _, nd⟩, _⟩ := dk_of I h
  rw [q1.keys]; exact nd
theorem items_atP {f : U → U → Option Bool} {A : Around} {us ws : List U} {vs xs : List V} {its jts : List Value} {b : Bool} (r1 : Reps X.K W io H us vs) (r2 : Reps X.K W io H ws xs) (v1 : Vals vs its) (v2 : Vals xs jts)
    (ih : ∀ (u w : U) (x y : V) (v v' : Value) (b : Bool), Rep X.K W io H u x → Rep X.K W io H w y → RelV x v → RelV y v' → f u w = some b → SeqAt.EqP X.prog X.w A s v v' b) (h : eqZ f us ws = some b) :
    ∀ j (h1 : j < its.toArray.size) (h2 : j < jts.toArray.size), SeqAt.EqP X.prog X.w A s its.toArray[j] jts.toArray[j] (eT f us ws j) := by
  intro j h1 h2
  have l1 : j < its.length := by simpa using h1
  have l2 : j < jts.length := by simpa using h2
  have k1 : j < us.length := by rw [r1.length, v1.length]; exact l1
  have k2 : j < ws.length := by rw [r2.length, v2.length]; exact l2
  obtain ⟨c, q1, _⟩ := eqZ_get h j us[j] ws[j] (List.getElem?_eq_getElem k1) (List.getElem?_eq_getElem k2)
  obtain ⟨x, g1, p1⟩ := r1.get (List.getElem?_eq_getElem k1)
  obtain ⟨y, g2, p2⟩ := r2.get (List.getElem?_eq_getElem k2)
  obtain ⟨v, m1, n1⟩ := v1.get g1
  obtain ⟨v', m2, n2⟩ := v2.get g2
  rw [eT_get (List.getElem?_eq_getElem k1) (List.getElem?_eq_getElem k2) q1]
  have a1 : its.toArray[j] = v := by
    have := List.getElem?_eq_getElem l1
    rw [m1] at this
    simpa using (Option.some.inj this).symm
  have a2 : jts.toArray[j] = v' := by
    have := List.getElem?_eq_getElem l2
    rw [m2] at this
    simpa using (Option.some.inj this).symm
  rw [a1, a2]
  exact ih _ _ x y v v' c p1 p2 n1 n2 q1
theorem hits_at {f : U → U → Option Bool} {A : Around} {gb : List (Key × U)} {kb : List (Key × V)} {vb : List (Key × Value)} (rb : KR X.K W io H gb kb) (qb : KV kb vb)
    (ih : ∀ (u w : U) (x y : V) (v v' : Value) (b : Bool), Rep X.K W io H u x → Rep X.K W io H w y → RelV x v → RelV y v' → f u w = some b → SeqAt.EqP X.prog X.w A s v v' b) :
    ∀ {ga : List (Key × U)} {ka : List (Key × V)} {va : List (Key × Value)} {r : Bool}, KR X.K W io H ga ka → KV ka va → eqD f gb ga = some r → PySem.W.KeqHitsP X.prog X.w A s vb va r := by
  intro ga
  induction ga with
  | nil =>
    intro ka va r h1 h2 h
    cases h1; cases h2
    unfold eqD at h; cases h; exact .nil
  | cons p ga ihg =>
    intro ka va r hh1 hh2 h
    cases hh1 with
    | cons h1 t1 =>
    rename_i q ka
    cases hh2 with
    | cons h2 t2 =>
    rename_i t va
    obtain ⟨e1, r1⟩ := h1
    obtain ⟨e2, r2⟩ := h2
    unfold eqD at h
    have kv := rb.val (k := p.1)
    have vv := qb.val p.1
    split at h
    · rename_i hn
      cases h
      have : valV kb p.1 = none := by
        cases z : valV kb p.1 with
        | none => rfl
        | some v => rw [z] at kv; obtain ⟨u, g, _⟩ := kv; rw [g] at hn; cases hn
      rw [this] at vv
      have : valueAt vb p.1 = none := by
        cases z : valueAt vb p.1 with
        | none => rfl
        | some v => rw [z] at vv; exact vv.elim
      rw [show t = (t.1, t.2) from rfl]
      exact .miss (by rw [← e2, ← e1]; exact this)
    · rename_i w hw
      split at h
      · rename_i a c ha hc
        cases h
        obtain ⟨v, hv, rv⟩ : ∃ v, valV kb p.1 = some v ∧ Rep X.K W io H w v := by
          cases z : valV kb p.1 with
          | none => rw [z] at kv; rw [kv] at hw; cases hw
          | some v => rw [z] at kv; obtain ⟨u, g, r⟩ := kv; rw [g] at hw; cases hw; exact ⟨v, rfl, r⟩
        rw [hv] at vv
        obtain ⟨y, hy, ry⟩ : ∃ y, valueAt vb p.1 = some y ∧ RelV v y := by
          cases z : valueAt vb p.1 with
          | none => rw [z] at vv; exact vv.elim
          | some y => rw [z] at vv; exact ⟨y, rfl, vv⟩
        rw [show t = (t.1, t.2) from rfl]
        exact .hit (by rw [← e2, ← e1]; exact hy) (ih _ _ q.2 v t.2 y a r1 rv r2 ry ha) (ihg t1 t2 hc)
      · cases h
theorem valV_mem : ∀ {kvs : List (Key × V)} {q : Key × V}, (kvs.map (·.1)).Nodup → q ∈ kvs → valV kvs q.1 = some q.2
  | [], _, _, h => nomatch h
  | t :: kvs, q, hn, h => by
    rw [List.map_cons, List.nodup_cons] at hn
    rcases List.mem_cons.mp h with rfl | hm
    · exact valV_pos rfl
    · rw [valV_neg (fun z => hn.1 (by rw [z]; exact List.mem_map.mpr ⟨q, hm, rfl⟩))]
      exact valV_mem hn.2 hm
/-- of one and the same object -/
theorem eqD_same {f : U → U → Option Bool} (ih : ∀ (u w : U) (x : V) (b : Bool), Rep X.K W io H u x → Rep X.K W io H w x → f u w = some b → b = true) {gb : List (Key × U)} {kvs : List (Key × V)} (hn : (kvs.map (·.1)).Nodup) (rb : KR X.K W io H gb kvs) :
    ∀ {ga : List (Key × U)} {ks : List (Key × V)} {r : Bool}, (∀ q ∈ ks, q ∈ kvs) → KR X.K W io H ga ks → eqD f gb ga = some r → r = true := by
  intro ga
  induction ga with
  | nil => intro ks r _ _ h; unfold eqD at h; cases h; rfl
  | cons p ga ihg =>
    intro ks r sub hh1 h
    cases hh1 with
    | cons h1 t1 =>
    rename_i q ks
    obtain ⟨e1, r1⟩ := h1
    have hv := valV_mem hn (sub q (List.mem_cons_self ..))
    have kv := rb.val (k := q.1)
    rw [hv] at kv
    obtain ⟨u, g, ru⟩ := kv
    unfold eqD at h
    rw [e1, g] at h
    simp only at h
    split at h
    · rename_i a c ha hc
      cases h
      rw [ih _ _ q.2 a r1 ru ha, ihg (fun z hz => sub z (List.mem_cons_of_mem _ hz)) t1 hc]
      rfl
    · cases h
theorem eqG_same (I : Inv X pins sg H s) : ∀ (n : Nat) (u w : U) (x : V) (b : Bool), Rep X.K W io H u x → Rep X.K W io H w x → eqG n u w = some b → b = true
  | 0, _, _, _, _, _, _, h => by unfold eqG at h; cases h
  | n + 1, u, w, x, b, r1, r2, h => by
    by_cases h1 : ∃ us vs, u = .tup us ∧ w = .tup vs
    · obtain ⟨us, ws, rfl, rfl⟩ := h1
      obtain ⟨a, vs, e1, l, p1⟩ := r1.tup'; subst e1
      obtain ⟨_, _, z, l2, p2⟩ := r2.tup'; cases z
      have e := I.tuple_inj l.sq l2.sq; subst e
      unfold eqG at h
      cases q : eqZ (eqG n) us ws with
      | none => rw [q] at h; cases h
      | some c =>
        rw [q] at h; cases h
        rw [eqZ_same p1 p2 (fun u w x b => eqG_same I n u w x b) q, p1.length, p2.length]
        simp
    · by_cases h2 : ∃ us vs, u = .lst us ∧ w = .lst vs
      · obtain ⟨us, ws, rfl, rfl⟩ := h2
        obtain ⟨a, vs, e1, l, p1⟩ := r1.lst'; subst e1
        obtain ⟨_, _, z, l2, p2⟩ := r2.lst'; cases z
        have e := I.list_inj l.sq l2.sq; subst e
        unfold eqG at h
        rw [if_pos (by rw [p1.length, p2.length])] at h
        exact eqZ_same p1 p2 (fun u w x b => eqG_same I n u w x b) h
      · by_cases h3 : ∃ ks us ls vs, u = .dct ks us ∧ w = .dct ls vs
        · obtain ⟨ks, us, ls, ws, rfl, rfl⟩ := h3
          obtain ⟨a, vs, e1, l, p1⟩ := r1.dct'; subst e1
          obtain ⟨_, vs2, z, l2, p2⟩ := r2.dct'; cases z
          unfold eqG at h
          split at h
          · rename_i ga gb ha hb
            obtain ⟨k1, d1, a1⟩ := ld_dk l p1 ha
            obtain ⟨k2, d2, a2⟩ := ld_dk l2 p2 hb
            have e := d1.inj d2; subst e
            split at h
            · exact eqD_same (fun u w x b => eqG_same I n u w x b) (dk_nodup I d1) a2 (fun q hq => hq) a1 h
            · rename_i hz
              exact absurd (a1.len.trans a2.len.symm) hz
          · cases h
        · rw [eqG_mix n u w h1 h2 h3] at h
          exact eqP_same I u w r1 r2 h
/-- the two readings: == and != -/
structure Rds (P : Program) (w : World) (A : Around) (s : Shared) (f : Bool → Bool) (R : Value → Value → Bool → Prop) : Prop where
  tuples : ∀ {l b : Addr} {items items2 : Array Value} {e : Nat → Bool}, s.heap.IsTuple l items → s.heap.IsTuple b items2 → (∀ j (h1 : j < items.size) (h2 : j < items2.size), SeqAt.EqP P w A.in1 s items[j] items2[j] (e j)) → R (.ref l) (.ref b) (f ((List.range (min items.size items2.size)).all e && items.size == items2.size))
  lists : ∀ {l b : Addr} {items items2 : Array Value} {e : Nat → Bool}, s.heap.IsList l items → s.heap.IsList b items2 → items.size = items2.size → (∀ j (h1 : j < items.size) (h2 : j < items2.size), SeqAt.EqP P w A.in1 s items[j] items2[j] (e j)) → R (.ref l) (.ref b) (f ((List.range items.size).all e))
  lengths : ∀ {l b : Addr} {items items2 : Array Value}, s.heap.IsList l items → s.heap.IsList b items2 → (items.size != items2.size) = true → R (.ref l) (.ref b) (f false)
  dicts : ∀ {l b : Addr} {ka kb : List (Key × Value)} {r : Bool}, (l == sysModules) = false → (b == sysModules) = false → Heap.DictOf (mixKind P w) s.heap l ka → Heap.DictOf (mixKind P w) s.heap b kb → (ka.length = kb.length → PySem.W.KeqHitsP P w A.in1 s kb ka r) → R (.ref l) (.ref b) (f (ka.length == kb.length && r))
  pairs : ∀ (u w : U) {x y : V} {v v' : Value} {b : Bool} {X : Cx} {pins : List (Addr × Obj)} {sg : L2.St} {H : Hp} {W : Addr → Prop} {io : List Addr}, Inv X pins sg H s → Rep X.K W io H u x → Rep X.K W io H w y → RelV x v → RelV y v' → eqP u w = some b → R v v' (f b)
theorem rds_eq {P : Program} {w : World} {A : Around} (hu : A.units < cLine) : Rds P w A s id (RcP P w .Eq A s) :=
  ⟨fun h1 h2 h => rcP_tupEq h1 h2 hu h, fun h1 h2 hz h => SeqAt.rcP_lists h1 h2 hz hu h, fun h1 h2 hz => SeqAt.RcAt.lists_lengths h1 h2 hz hu P w, fun n1 n2 h1 h2 h => PySem.W.rcP_dicts n1 n2 h1 h2 hu h, fun u v _ _ _ _ _ _ _ _ _ _ _ I r1 r2 v1 v2 e => pairs_at I (pairs_rc hu) u v r1 r2 v1 v2 e P w⟩
theorem rds_ne {P : Program} {w : World} {A : Around} (hu : A.units < cLine) : Rds P w A s Bool.not (RcP P w .NotEq A s) :=
  ⟨fun h1 h2 h => rcP_tupNe h1 h2 hu h, fun h1 h2 hz h => rcP_lstNe h1 h2 hz hu h, fun h1 h2 hz => SeqAt.RcNeAt.lists_lengths h1 h2 hz hu P w, fun n1 n2 h1 h2 h => rcP_dictNe n1 n2 h1 h2 hu h, fun u v _ _ _ _ _ _ _ _ _ _ _ I r1 r2 v1 v2 e => pairs_at I (pairs_rn hu) u v r1 r2 v1 v2 e P w⟩
theorem eqG_step (I : Inv X pins sg H s) {n : Nat} {A : Around} {f : Bool → Bool} {R : Value → Value → Bool → Prop} (S : Rds X.prog X.w A s f R)
    (ih : ∀ (u w : U) (x y : V) (v v' : Value) (b : Bool), Rep X.K W io H u x → Rep X.K W io H w y → RelV x v → RelV y v' → eqG n u w = some b → SeqAt.EqP X.prog X.w A.in1 s v v' b)
    {u w : U} {x y : V} {v v' : Value} {b : Bool} (r1 : Rep X.K W io H u x) (r2 : Rep X.K W io H w y) (rv1 : RelV x v) (rv2 : RelV y v') (h : eqG (n + 1) u w = some b) : R v v' (f b) := by
  by_cases h1 : ∃ us vs, u = .tup us ∧ w = .tup vs
  · obtain ⟨us, ws, rfl, rfl⟩ := h1
    obtain ⟨a, vs, e1, l, p1⟩ := r1.tup'; subst e1
    obtain ⟨a', xs, e2, l2, p2⟩ := r2.tup'; subst e2
    cases (show v = Value.ref a from rv1)
    cases (show v' = Value.ref a' from rv2)
    obtain ⟨its, w1, t1, _⟩ := I.tuple l.sq
    obtain ⟨jts, w2, t2, _⟩ := I.tuple l2.sq
    unfold eqG at h
    cases q : eqZ (eqG n) us ws with
    | none => rw [q] at h; cases h
    | some c =>
      rw [q] at h; cases h
      have := S.tuples (e := eT (eqG n) us ws) t1 t2 (items_atP p1 p2 w1 w2 ih q)
      rw [List.size_toArray, List.size_toArray, ← w1.length, ← w2.length, ← p1.length, ← p2.length, eT_all q] at this
      have e : (us.length == ws.length) = decide (us.length = ws.length) := by
        by_cases z : us.length = ws.length <;> simp [z]
      rw [e] at this
      exact this
  · by_cases h2 : ∃ us vs, u = .lst us ∧ w = .lst vs
    · obtain ⟨us, ws, rfl, rfl⟩ := h2
      obtain ⟨a, vs, e1, l, p1⟩ := r1.lst'; subst e1
      obtain ⟨a', xs, e2, l2, p2⟩ := r2.lst'; subst e2
      cases (show v = Value.ref a from rv1)
      cases (show v' = Value.ref a' from rv2)
      obtain ⟨its, w1, t1, _⟩ := I.list l.sq
      obtain ⟨jts, w2, t2, _⟩ := I.list l2.sq
      have z1 : its.toArray.size = us.length := by rw [List.size_toArray, ← w1.length, ← p1.length]
      have z2 : jts.toArray.size = ws.length := by rw [List.size_toArray, ← w2.length, ← p2.length]
      unfold eqG at h
      split at h
      · rename_i hz
        have := S.lists (e := eT (eqG n) us ws) t1.isList t2.isList (by rw [z1, z2, hz]) (items_atP p1 p2 w1 w2 ih h)
        rw [z1] at this
        have e := eT_all h
        rw [← hz, Nat.min_self] at e
        rw [e] at this
        exact this
      · rename_i hz
        cases h
        exact S.lengths t1.isList t2.isList (by rw [z1, z2]; simpa using hz)
    · by_cases h3 : ∃ ks us ls vs, u = .dct ks us ∧ w = .dct ls vs
      · obtain ⟨ks, us, ls, ws, rfl, rfl⟩ := h3
        obtain ⟨a, vs, e1, l, p1⟩ := r1.dct'; subst e1
        obtain ⟨a', xs, e2, l2, p2⟩ := r2.dct'; subst e2
        cases (show v = Value.ref a from rv1)
        cases (show v' = Value.ref a' from rv2)
        unfold eqG at h
        split at h
        · rename_i ga gb ha hb
          obtain ⟨k1, d1, a1⟩ := ld_dk l p1 ha
          obtain ⟨k2, d2, a2⟩ := ld_dk l2 p2 hb
          obtain ⟨va, q1, q2, q3⟩ := dk_of I d1
          obtain ⟨vb, t1, t2, t3⟩ := dk_of I d2
          have la : ga.length = va.length := a1.len.trans q1.length
          have lb : gb.length = vb.length := a2.len.trans t1.length
          split at h
          · rename_i hz
            have := S.dicts (r := b) q3 t3 q2 t2 fun _ => hits_at a2 t1 ih a1 q1 h
            rw [← la, ← lb, hz] at this
            simpa using this
          · rename_i hz
            cases h
            have := S.dicts (r := true) q3 t3 q2 t2 fun z => absurd (la.trans (z.trans lb.symm)) hz
            rw [← la, ← lb, show (ga.length == gb.length) = false from by simpa using hz] at this
            exact this
        · cases h
      · rw [eqG_mix n u w h1 h2 h3] at h
        exact S.pairs u w I r1 r2 rv1 rv2 h
theorem eqG_at (I : Inv X pins sg H s) : ∀ (n : Nat) (A : Around), A.units + n < cLine → ∀ (u w : U) (x y : V) (v v' : Value) (b : Bool), Rep X.K W io H u x → Rep X.K W io H w y → RelV x v → RelV y v' → eqG n u w = some b → SeqAt.EqP X.prog X.w A s v v' b
  | 0, _, _, _, _, _, _, _, _, _, _, _, _, _, h => by unfold eqG at h; cases h
  | n + 1, A, hu, u, w, x, y, v, v', b, r1, r2, rv1, rv2, h => by
    have ih := eqG_at I n A.in1 (by show A.units + 1 + n < cLine; omega)
    by_cases hx : (∃ a c, x = .ref a ∧ y = .ref c)
    · obtain ⟨a, c, rfl, rfl⟩ := hx
      cases (show v = Value.ref a from rv1)
      cases (show v' = Value.ref c from rv2)
      by_cases e : a = c
      · subst e
        rw [eqG_same I (n + 1) u w (.ref a) b r1 r2 h]
        exact (SeqAt.EqAt.same _).eqP
      · exact SeqAt.eqP_refs e (eqG_step I (rds_eq (by omega)) ih r1 r2 rv1 rv2 h)
    · rw [eqG_mix n u w (fun ⟨us, vs, e1, e2⟩ => hx (by
        subst e1; subst e2
        obtain ⟨a, _, z1, _⟩ := r1.tup'
        obtain ⟨c, _, z2, _⟩ := r2.tup'
        exact ⟨a, c, z1, z2⟩)) (fun ⟨us, vs, e1, e2⟩ => hx (by
        subst e1; subst e2
        obtain ⟨a, _, z1, _⟩ := r1.lst'
        obtain ⟨c, _, z2, _⟩ := r2.lst'
        exact ⟨a, c, z1, z2⟩)) (fun ⟨ks, us, ls, vs, e1, e2⟩ => hx (by
        subst e1; subst e2
        obtain ⟨a, _, z1, _⟩ := r1.dct'
        obtain ⟨c, _, z2, _⟩ := r2.dct'
        exact ⟨a, c, z1, z2⟩))] at h
      exact (pairs_at I (pairs_eq (by omega)) u w r1 r2 rv1 rv2 h).eqP
end
def ne3 (u v : U) : Option U := (eqG 60 u v).map fun b => U.bl (!b)
section
variable {X : Cx}
theorem o_ne3 (hu : X.A.units + 64 < cLine) : OpR X (compareOp .NotEq) (P2 X.K ne3) := by
  intro pins s sg H x y v u Q I rx ry h
  obtain ⟨G, io, st, u1, u2, u3, ok, r1, r2, e, q⟩ := h
  unfold ne3 at e
  cases z : eqG 60 u1 u2 with
  | none => rw [z] at e; cases e
  | some b =>
    rw [z] at e; cases e
    exact eqG_step (n := 59) I (rds_ne (by omega)) (eqG_at I 59 X.A.in1 (by show X.A.units + 1 + 59 < cLine; omega)) r1 r2 rx ry z _ _ ⟨.bl (!b), H, I, rfl, q _ H (Same.refl H) (rBl _)⟩
end
end D
namespace D
open PySem L2
def derF : Nat → Store → U → U
  | 0, _, u => u
  | n + 1, st, .ref k => match st[k]? with
    | some (.lst us) => .lst (us.map (derF n st))
    | some (.dct ks us) => .dct ks (us.map (derF n st))
    | some (.dcT (k0 :: ks) us) => .dct ((k0 :: ks).map U.tup) (us.map (derF n st))
    | _ => .ref k
  | n + 1, st, .tup us => .tup (us.map (derF n st))
  | n + 1, st, .lst us => .lst (us.map (derF n st))
  | n + 1, st, .dct ks us => .dct ks (us.map (derF n st))
  | _ + 1, _, u => u
abbrev der (st : Store) (u : U) : U := derF 12 st u
def isData : Ob → Bool
  | .lst _ => true
  | .dct _ _ => true
  | .dcT _ _ => true
  | _ => false
/-- what of W is no list and no dict of the store -/
def Wd (G : Addr → Prop) (io : List Addr) (st : Store) : Addr → Prop := fun b => Wf G io b ∧ ¬ ∃ (n : Nat) (ob : Ob), st[n]? = some ob ∧ isData ob = true ∧ io[n]? = some b
section
variable {K : PySem.W.Frag} {G : Addr → Prop} {io : List Addr} {st : Store} {H : Hp} {env : Env} {sg : L2.St}
theorem wd_sub : ∀ a, Wf (Wd G io st) [] a → Wf G io a := fun a h => h.elim (fun z => z.1) fun z => nomatch z
theorem Ok.deep (ok : Ok K G io st H) : Ok K (Wd G io st) [] [] H := ⟨List.nodup_nil, fun a h => (nomatch h), fun a h => ok.trk a (wd_sub a h), rfl, fun n ob a e _ => by rw [List.getElem?_nil] at e; cases e⟩
theorem not_wd {n : Nat} {ob : Ob} {a : Addr} (h1 : st[n]? = some ob) (h2 : isData ob = true) (h3 : io[n]? = some a) : ¬ Wf (Wd G io st) [] a := fun z => by
  rcases z with z | z
  · exact z.2 ⟨n, ob, h1, h2, h3⟩
  · cases z
theorem ders_rep {f : U → U} (ih : ∀ (u : U) (v : V), Rep K (Wf G io) io H u v → noRef (f u) = true → Rep K (Wf (Wd G io st) []) [] H (f u) v) : ∀ {us : List U} {vs : List V}, Reps K (Wf G io) io H us vs → noRefs (us.map f) = true → Reps K (Wf (Wd G io st) []) [] H (us.map f) vs
  | [], vs, r, _ => by rw [r.isNil]; exact .nil
  | u :: us, vs, r, h => by
    obtain ⟨v, t, rfl, r1, r2⟩ := r.uncons
    rw [List.map_cons] at h ⊢
    unfold noRefs at h
    rw [Bool.and_eq_true] at h
    exact .cons (ih u v r1 h.1) (ders_rep ih r2 h.2)
theorem derF_rep (ok : Ok K G io st H) : ∀ (n : Nat) (u : U) (v : V), Rep K (Wf G io) io H u v → noRef (derF n st u) = true → Rep K (Wf (Wd G io st) []) [] H (derF n st u) v
  | 0, u, v, r, h => by unfold derF at h ⊢; exact Rep.io_any wd_sub u v h r
  | n + 1, u, v, r, h => by
    have ih := derF_rep ok n
    cases u with
    | ref k =>
      unfold derF at h ⊢
      cases q : st[k]? with
      | none => rw [q] at h; simp only at h; unfold noRef at h; cases h
      | some ob =>
        rw [q] at h
        unfold Rep at r
        obtain ⟨a, e1, rfl⟩ := r
        have o := ok.obs k ob a q e1
        cases ob with
        | lst us =>
          simp only at h ⊢
          unfold noRef at h
          obtain ⟨vs, q1, q2⟩ := o
          unfold Rep
          exact ⟨a, vs, rfl, ⟨q1, not_wd q rfl e1⟩, ders_rep ih q2 h⟩
        | dct ks us =>
          simp only at h ⊢
          unfold noRef at h
          obtain ⟨kvs, q1, q2, q3⟩ := o
          unfold Rep
          exact ⟨a, _, rfl, ⟨not_wd q rfl e1, .inl ⟨kvs, .inl q1, q2, rfl⟩⟩, ders_rep ih q3 h⟩
        | dcT ks us =>
          cases ks with
          | nil => simp only at h; unfold noRef at h; cases h
          | cons k0 ks =>
          simp only at h ⊢
          unfold noRef at h
          obtain ⟨kvs, q1, q2, q3⟩ := o
          unfold Rep
          exact ⟨a, _, rfl, ⟨not_wd q rfl e1, .inr ⟨kvs, q1, by rw [q2, List.map_map]; rfl, rfl, fun z => by rw [z] at q2; cases q2⟩⟩, ders_rep ih q3 h⟩
        | _ => simp only at h; unfold noRef at h; cases h
    | tup us =>
      unfold derF at h ⊢
      unfold noRef at h
      unfold Rep at r ⊢
      obtain ⟨a, vs, rfl, l, rs⟩ := r
      exact ⟨a, vs, rfl, l.imp (fun z => ⟨z.1, fun y => z.2 (wd_sub a y)⟩) id, ders_rep ih rs h⟩
    | lst us =>
      unfold derF at h ⊢
      unfold noRef at h
      unfold Rep at r ⊢
      obtain ⟨a, vs, rfl, l, rs⟩ := r
      exact ⟨a, vs, rfl, ⟨l.1, fun y => l.2 (wd_sub a y)⟩, ders_rep ih rs h⟩
    | dct ks us =>
      unfold derF at h ⊢
      unfold noRef at h
      unfold Rep at r ⊢
      obtain ⟨a, vs, rfl, l, rs⟩ := r
      exact ⟨a, vs, rfl, ⟨fun y => l.1 (wd_sub a y), l.2⟩, ders_rep ih rs h⟩
    | _ => exact Rep.io_any wd_sub _ v h r
theorem der_rep2 (ok : Ok K G io st H) {u : U} {v : V} (r : Rep K (Wf G io) io H u v) (h : noRef (der st u) = true) : Rep K (Wf (Wd G io st) []) [] H (der st u) v := derF_rep ok 12 u v r h
end
/-- f(..), what the store has being lent as plain data; what is told is made of tuples -/
def appW (g : List U → Store → Rs U) (fa : DA) : DE := fun env st => (fa env st).bind fun us st1 => if noRefs (us.map (der st1)) = true then match g (us.map (der st1)) [] with
  | .ok u [] => if tupU u = true then .ok u st1 else .bad
  | .ex c fs [] => .ex c fs st1
  | _ => .bad
  else .bad
def binW (g : U → U → Option U) (a b : DE) : DE := fun env st => (a env st).bind fun u st1 => (b env st1).bind fun v st2 => if noRef (der st2 u) = true ∧ noRef (der st2 v) = true then Rs.of (flat1 (g (der st2 u) (der st2 v))) st2 else .bad
section
variable {X : Cx} {xs : XS} {wx : WX} {pos : Pos}
theorem binW_read {g : U → U → Option U} {fa fb : DE} {sg : L2.St} {H : Hp} {Q : VK} (h : tD X.K xs wx (binW g fa fb) sg H Q) : tOp (P2 X.K g) (tD X.K xs wx fa) (tD X.K xs wx fb) sg H Q := by
  obtain ⟨G, io, st, env, ok, er, w⟩ := h
  refine ⟨G, io, st, env, ok, er, w.bind.impR fun st1 io1 H1 u ok1 e1 w1 x rx => ?_⟩
  refine ⟨G, io1, st1, env, ok1, er.ext ok.dj e1, w1.bind.impR fun st2 io2 H2 v ok2 e2 w2 y ry => ?_⟩
  split at w2
  · rename_i hn
    obtain ⟨a, ha, w3⟩ := w2.pure
    obtain ⟨hg, hf⟩ := flat1_of ha
    exact ⟨Wd G io2 st2, [], [], _, _, a, ok2.deep, der_rep2 ok2 (rx.ext e2) hn.1, der_rep2 ok2 ry hn.2, hg, fun v' H' s r => w3.hereS ok2 s v' (flat_any hf r)⟩
  · exact w2.elim
theorem t_cmpW {op : CmpOp} {g : U → U → Option U} {a b : Expr} {fa fb : DE} (ho : OpR X (compareOp op) (P2 X.K g)) (ha : PE X a (tD X.K xs wx fa)) (hb : PE X b (tD X.K xs wx fb)) (hm : behindInMarks op b = false := by first | exact nomark _ | rfl) :
    PT X (.Compare a [op] [b] pos) (tDT X.K xs wx (tst (binW g fa fb))) := pt_imp (pt_cmpR ho ha hb hm) fun sg H Q h => by
  obtain ⟨G, io, st, env, ok, er, w⟩ := h
  refine binW_read (Q := fun x H1 => ∃ k, x = .bl k ∧ Q k H1) ?_
  exact tst_read (t := tVar 0) ⟨G, io, st, env, ok, er, w⟩
end
end D
namespace D
open PySem L2
/-- what a dict has, by keys ints and texts -/
def dictAt (st : Store) : U → Option (List (Key × U))
  | .dct ks us => kvsOf ks us
  | .ref n => match st[n]? with
    | some (.dct ks us) => kvsOf ks us
    | _ => none
  | _ => none
section
variable {K : PySem.W.Frag} {G : Addr → Prop} {io : List Addr} {st : Store} {H : Hp}
theorem dictAt_rep (ok : Ok K G io st H) {u : U} {v : V} {g : List (Key × U)} (r : Rep K (Wf G io) io H u v) (h : dictAt st u = some g) : ∃ a kvs, v = .ref a ∧ Rd H a (.dK kvs) ∧ KR K (Wf G io) io H g kvs := by
  unfold dictAt at h
  split at h
  · obtain ⟨a, vs, rfl, l, p⟩ := r.dct'
    obtain ⟨kvs, d, k⟩ := ld_dk l p h
    rcases d with d | ⟨d, rfl⟩
    · exact ⟨a, kvs, rfl, d, k⟩
    · exfalso
      obtain ⟨_, ⟨k1, h1, _, _⟩ | ⟨k1, h1, _, _, hne⟩⟩ := l
      · rcases h1 with h1 | ⟨o, h1⟩ <;> rw [d] at h1 <;> cases h1
      · rw [d] at h1; cases h1; exact hne rfl
  · split at h
    · rename_i n ks us q
      obtain ⟨a, kvs, rfl, q1, q2, q3, gs, q4, q5⟩ := ref_dct ok q r
      rw [h] at q4; cases q4
      exact ⟨a, kvs, rfl, .inl q2, q5⟩
    · cases h
  · cases h
theorem dict_get (ok : Ok K G io st H) {u k : U} {x y : V} {g : List (Key × U)} {kk : Key} (r : Rep K (Wf G io) io H u x) (rk : Rep K (Wf G io) io H k y) (h : dictAt st u = some g) (hk : kOf k = some kk) :
    ∃ a o, x = .ref a ∧ DGet H a y o ∧ match o with
      | some v => ∃ w, valG g kk = some w ∧ Rep K (Wf G io) io H w v
      | none => valG g kk = none := by
  obtain ⟨a, kvs, rfl, hd, kr⟩ := dictAt_rep ok r h
  have ey : y = kV kk := kOf_rep rk hk
  exact ⟨a, valV kvs kk, rfl, .inl ⟨kvs, kk, hd, ey, rfl⟩, kr.val⟩
end
/-- d.get(k, e) -/
def getG (f g e : DE) : DE := fun env st => (f env st).bind fun u st1 => match dictAt st1 u with
  | none => .bad
  | some _ => (g env st1).bind fun k st2 => (e env st2).bind fun d st3 => match dictAt st3 u, kOf k with
    | some kvs, some kk => .ok ((valG kvs kk).getD d) st3
    | _, _ => .bad
/-- o[k], whatever o is -/
def getU (st : Store) (u k : U) : Option U := match u with
  | .ref n => match st[n]? with
    | some (.lst us) => match k with
      | .int i => atI us i
      | _ => none
    | some (.dct ks us) => (kvsOf ks us).bind fun g => (kOf k).bind fun kk => valG g kk
    | _ => none
  | .dct ks us => (kvsOf ks us).bind fun g => (kOf k).bind fun kk => valG g kk
  | u => ix2 u k
def ixG (f g : DE) : DE := fun env st => (f env st).bind fun u st1 => (g env st1).bind fun k st2 => Rs.of (getU st2 u k) st2
/-- k in o -/
def inU (st : Store) (k u : U) : Option Bool := match u with
  | .ref n => match st[n]? with
    | some (.dct ks us) => (kvsOf ks us).bind fun g => (kOf k).map fun kk => (valG g kk).isSome
    | _ => none
  | .dct ks us => (kvsOf ks us).bind fun g => (kOf k).map fun kk => (valG g kk).isSome
  | u => match in2 k u with
    | some (.bl b) => some b
    | _ => none
def inG (f g : DE) : DE := fun env st => (f env st).bind fun k st1 => (g env st1).bind fun u st2 => Rs.of ((inU st2 k u).map U.bl) st2
def ninG (f g : DE) : DE := fun env st => (f env st).bind fun k st1 => (g env st1).bind fun u st2 => Rs.of ((inU st2 k u).map fun b => U.bl (!b)) st2
/-- o[k] = e, o a list or a dict of the store -/
def putO (ob : Ob) (k v : U) : Option Ob := match ob with
  | .lst us => match k with
    | .int i => (ixN us.length i).map fun j => .lst (us.set j v)
    | _ => none
  | .dct ks us => (kvsOf ks us).bind fun g => (kOf k).bind fun kk => if g.length < sizeLine then some (mkOb (putG g kk v)) else none
  | _ => none
def sPutG (f g e : DE) : DS := fun env st => (e env st).out env fun v st1 => (f env st1).out env fun u st2 => (g env st2).out env fun k st3 => match u with
  | .ref n => match st3[n]? with
    | some ob => match putO ob k v with
      | some ob' => .nx env (st3.set n ob')
      | none => .bad
    | none => .bad
  | _ => .bad
section
variable {X : Cx} {xs : XS} {wx : WX} {pos : Pos}
def rIxDG : R2 := fun x y H Q => ∃ a v, x = .ref a ∧ DGet H a y (some v) ∧ Q v H
theorem ix_dG (hu : X.A.units + 1 < cLine) : IxR X rIxDG := by
  intro value slice pins s sg H x y v u Q I rx ry ⟨a, w, ex, dg, q⟩ hs
  subst ex
  cases (show v = Value.ref a from rx)
  exact PyProof.Rows.tail_any (ops := [.ref a, u]) (dict_typeIs I dg) PySem.F.slot_dict_getitem.lookup (d_getItem hu I dg ry fun w' s' I' rw' => ⟨w, H, I', rw', q⟩) hs
theorem d_ixG {a b : Expr} {f g : DE} (hu : X.A.units + 1 < cLine) (ha : PE X a (tD X.K xs wx f)) (hb : PE X b (tD X.K xs wx g)) (hs : PlainIx b) : PE X (.Subscript a b pos) (tD X.K xs wx (ixG f g)) :=
  pe_imp (pe_ix (IxR.or o_ix (IxR.or ix_list (ix_dG hu))) ha hb hs) fun sg H Q h => by
    obtain ⟨G, io, st, env, ok, er, w⟩ := h
    refine ⟨G, io, st, env, ok, er, w.bind.impR fun st1 io1 H1 u ok1 e1 w1 x rx => ?_⟩
    refine ⟨G, io1, st1, env, ok1, er.ext ok.dj e1, w1.bind.impR fun st2 io2 H2 k ok2 e2 w2 y ry => ?_⟩
    obtain ⟨r, hr, w3⟩ := w2.pure
    have rx2 := rx.ext e2
    have dct : ∀ (g : List (Key × U)) (kk : Key), dictAt st2 u = some g → kOf k = some kk → valG g kk = some r → rIxDG x y H2 Q := fun g kk h1 h2 h3 => by
      obtain ⟨a', o, ea, dg, hv⟩ := dict_get ok2 rx2 ry h1 h2
      cases o with
      | none => simp only at hv; rw [hv] at h3; cases h3
      | some v =>
        obtain ⟨w', hw, rw'⟩ := hv
        rw [h3] at hw; cases hw
        exact ⟨a', v, ea, dg, w3.here ok2 v rw'⟩
    unfold getU at hr
    split at hr
    · rename_i n
      split at hr
      · rename_i us hus
        split at hr
        · rename_i i
          obtain ⟨a', vs, rfl, q1, q2, q3⟩ := ref_list ok2 hus rx2
          have et : y = .int i := by unfold Rep at ry; exact ry
          subst et
          unfold atI at hr
          cases hj : ixN us.length i with
          | none => rw [hj] at hr; cases hr
          | some j =>
            rw [hj] at hr
            obtain ⟨v, hv, rv⟩ := q3.get hr
            exact .inr (.inl ⟨a', vs, i, v, rfl, rfl, .inl (.inl q2), by unfold atI; rw [← q3.length, hj]; exact hv, w3.here ok2 v rv⟩)
        · cases hr
      · rename_i ks us hd
        cases h1 : kvsOf ks us with
        | none => rw [h1] at hr; cases hr
        | some g =>
          rw [h1] at hr
          cases h2 : kOf k with
          | none => rw [h2] at hr; cases hr
          | some kk =>
            rw [h2] at hr
            exact .inr (.inr (dct g kk (by unfold dictAt; simp only [hd]; exact h1) h2 hr))
      · cases hr
    · rename_i ks us
      cases h1 : kvsOf ks us with
      | none => rw [h1] at hr; cases hr
      | some g =>
        rw [h1] at hr
        cases h2 : kOf k with
        | none => rw [h2] at hr; cases hr
        | some kk =>
          rw [h2] at hr
          exact .inr (.inr (dct g kk h1 h2 hr))
    · exact .inl ⟨G, io2, st2, u, k, r, ok2, rx2, ry, hr, fun v' H' s r => w3.hereS ok2 s v' r⟩
theorem set_or {r r' : TSet} (h : PSet X r) (h' : PSet X r') : PSet X (fun o i v H Q => r o i v H Q ∨ r' o i v H Q) := by
  intro pins s sg H o i v ov iv u Q I ro ri rv q
  rcases q with q | q
  · exact h pins s sg H o i v ov iv u Q I ro ri rv q
  · exact h' pins s sg H o i v ov iv u Q I ro ri rv q
theorem s_putG {o i e : Expr} {f g h : DE} {pos' : Pos} (hu : X.A.units + 1 < cLine) (ho : PE X o (tD X.K xs wx f)) (hi : PE X i (tD X.K xs wx g)) (he : PE X e (tD X.K xs wx h)) (hs : swapsWithSole [.Subscript o i pos'] e pos.line X.env = Pure.pure false := by rfl) (hw : swappedStores [.Subscript o i pos'] e X.env = Pure.pure none := by rfl)
    (h1 : (assignEach [.Subscript o i pos'] X.env).map (·.2) = [assign (.Subscript o i pos') X.env] := by rfl)
    (ha : ∀ v, assign (.Subscript o i pos') X.env v = (do
      let ov ← holding [v] (eval o X.env)
      let iv ← holding [v, ov] (eval i X.env)
      standAt pos'
      holding [v, ov, iv] (setItem ov iv v)
      release [v, ov, iv] []) := by intro _; rfl) : PS X (.Assign [.Subscript o i pos'] e pos) (tDS X.K xs wx (sPutG f g h)) :=
  ps_imp (ps_asg he (pg_sub ho hi (set_or set_list (set_dict hu)) ha) hs hw h1) fun D sg H q => by
    obtain ⟨F, io, st, env, fr, w⟩ := q
    refine ⟨Gs F env sg, io, st, env, fr.ok, fr.er, (WantsS.expr fr w).impR fun st1 io1 H1 v ok1 e1 z x rx => ?_⟩
    refine ⟨Gs F env sg, io1, st1, env, z.1.ok, z.1.er, (WantsS.expr z.1 z.2).impR fun st2 io2 H2 u ok2 e2 z2 y ry => ?_⟩
    refine ⟨Gs F env sg, io2, st2, env, z2.1.ok, z2.1.er, (WantsS.expr z2.1 z2.2).impR fun st3 io3 H3 k ok3 e3 z3 t rt => ?_⟩
    have z4 := z3.2
    have rx3 := (rx.ext e2).ext e3
    cases u with
    | ref n =>
      simp only at z4
      split at z4
      · rename_i ob hob
        split at z4
        · rename_i ob' hp
          unfold putO at hp
          split at hp
          · rename_i us
            split at hp
            · rename_i i
              cases hj : ixN us.length i with
              | none => rw [hj] at hp; cases hp
              | some j =>
                rw [hj] at hp; cases hp
                obtain ⟨a, vs, rfl, q1, q2, q3⟩ := ref_list ok3 hob (ry.ext e3)
                have et : t = .int i := by unfold Rep at rt; exact rt
                subst et
                refine .inl ⟨a, vs, i, j, rfl, rfl, q2, by rw [← q3.length]; exact hj, ?_⟩
                obtain ⟨f4, e4⟩ := z3.1.turnOb (ob' := .lst (us.set j v)) hob q1 (o' := .lst (vs.set j x)) nx_lst fun m => ⟨_, upd_same, (q3.set j rx3).mono m⟩
                exact z4 _ _ _ f4 e4
            · cases hp
          · rename_i ks us
            cases hgs : kvsOf ks us with
            | none => rw [hgs] at hp; cases hp
            | some gs =>
              rw [hgs] at hp
              cases hk : kOf k with
              | none => rw [hk] at hp; cases hp
              | some kk =>
                rw [hk] at hp
                have hp : (if gs.length < sizeLine then some (mkOb (putG gs kk v)) else none) = some ob' := hp
                split at hp
                · rename_i hl
                  cases hp
                  obtain ⟨a, kvs, rfl, q1, q2, q3, gs', q4, q5⟩ := ref_dct ok3 hob (ry.ext e3)
                  rw [hgs] at q4; cases q4
                  have et : t = kV kk := kOf_rep rt hk
                  subst et
                  refine .inr ⟨a, _, rfl, DPut.k q2 (by rw [← q5.len]; exact hl), ?_⟩
                  have rp := q5.put (k := kk) rx3
                  obtain ⟨f4, e4⟩ := z3.1.turnOb (ob' := mkOb (putG gs kk v)) hob q1 (o' := .dK (putK kvs kk x)) nx_dK fun m => ⟨_, upd_same, rp.keys, rp.vals.mono m⟩
                  exact z4 _ _ _ f4 e4
                · cases hp
          · cases hp
        · exact z4.elim
      · exact z4.elim
    | _ => exact z4.elim
end
abbrev DKv := Env → Store → Rs (List (Key × U))
def tDD (K : PySem.W.Frag) (xs : XS) (wx : WX) (f : DKv) : TE := fun sg H Q => ∃ G io st env, Ok K G io st H ∧ EnvRep K G io H env sg ∧
  Wants K G io H (fun _ io' H' g => ∀ kvs a, KR K (Wf G io') io' H' g kvs → H' a = none → Q (.ref a) (upd H' a (.dK kvs))) (XW xs wx sg) (f env st)
def newD (f : DKv) : DE := fun env st => (f env st).bind fun g st1 => .ok (mkD g) st1
def refDn (f : DKv) : DE := fun env st => (f env st).bind fun g st1 => .ok (.ref st1.length) (st1 ++ [mkOb g])
def cpyK (f : DE) : DKv := fun env st => (f env st).bind fun u st1 => Rs.of (dictAt st1 u) st1
section
variable {X : Cx} {xs : XS} {wx : WX} {pos : Pos}
theorem d_newD {e : Expr} {f : DKv} (h : PE X e (tDD X.K xs wx f)) : PE X e (tD X.K xs wx (newD f)) := pe_imp h fun sg H Q q => by
  obtain ⟨G, io, st, env, ok, er, w⟩ := q
  refine ⟨G, io, st, env, ok, er, w.bind.impR fun st1 io1 H1 g ok1 e1 w1 kvs a r na => ?_⟩
  exact w1.hereS ok1 (same_upd na) _ (ok1.newD na r)
theorem d_refDn {e : Expr} {f : DKv} (h : PE X e (tDD X.K xs wx f)) : PE X e (tD X.K xs wx (refDn f)) := pe_imp h fun sg H Q q => by
  obtain ⟨G, io, st, env, ok, er, w⟩ := q
  refine ⟨G, io, st, env, ok, er, w.bind.impR fun st1 io1 H1 g ok1 e1 w1 kvs a r na => ?_⟩
  have sm : Same H1 (upd H1 a (.dK kvs)) := same_upd na
  have m : Mono G io1 H1 G (io1 ++ [a]) (upd H1 a (.dK kvs)) := ⟨⟨[a], rfl⟩, fun b o n h => ⟨sm b o h, fun z => z.elim (fun y => n (.inl y)) fun y => by
    rcases List.mem_append.mp y with y | y
    · exact n (.inr y)
    · rw [List.mem_singleton] at y
      subst y
      rw [na] at h; cases h⟩⟩
  obtain ⟨ok2, e2⟩ := ok1.alloc (o := .dK kvs) (ob := mkOb g) na nx_dK ⟨kvs, upd_same, r.keys, r.vals.mono m⟩
  refine w1 (io1 ++ [a]) _ ok2 e2 (.ref a) ?_
  unfold Rep
  refine ⟨a, ?_, rfl⟩
  rw [ok1.len, List.getElem?_append_right (Nat.le_refl _)]
  simp
/-- dict(d) -/
theorem k_cpy {e : Expr} {f : DE} {p : Pos} (hg : Gl X "dict") (hm : X.mg "dict" = none) (he : PE X e (tD X.K xs wx f)) (hs : starEach [e] X.env = (false, eval e X.env) :: starEach [] X.env := by rfl) :
    PE X (.Call (.Name "dict" p) [e] [] pos) (tDD X.K xs wx (cpyK f)) := by
  refine pe_imp (pe_callTy (pos := pos) (p := p) call_dictD hg hm bt_dict (pa_cons he pa_nil hs) (by decide) (by decide) hs rfl) fun sg H Q h => ?_
  obtain ⟨G, io, st, env, ok, er, w⟩ := h
  refine ⟨G, io, st, env, ok, er, w.bind.impR fun st1 io1 H1 u ok1 e1 w1 v rv => ?_⟩
  obtain ⟨g, hg, w2⟩ := w1.pure
  obtain ⟨a, kvs, rfl, hd, kr⟩ := dictAt_rep ok1 rv hg
  exact ⟨a, kvs, rfl, hd, fun p hp => w2.here ok1 kvs p kr hp⟩
end
@[simp] theorem getG_ap (f g e : DE) (env : Env) (st : Store) : getG f g e env st = (f env st).bind fun u st1 => match dictAt st1 u with
  | none => .bad
  | some _ => (g env st1).bind fun k st2 => (e env st2).bind fun d st3 => match dictAt st3 u, kOf k with
    | some kvs, some kk => .ok ((valG kvs kk).getD d) st3
    | _, _ => .bad := (rfl)
@[simp] theorem ixG_ap (f g : DE) (env : Env) (st : Store) : ixG f g env st = (f env st).bind fun u st1 => (g env st1).bind fun k st2 => Rs.of (getU st2 u k) st2 := (rfl)
@[simp] theorem inG_ap (f g : DE) (env : Env) (st : Store) : inG f g env st = (f env st).bind fun k st1 => (g env st1).bind fun u st2 => Rs.of ((inU st2 k u).map U.bl) st2 := (rfl)
@[simp] theorem ninG_ap (f g : DE) (env : Env) (st : Store) : ninG f g env st = (f env st).bind fun k st1 => (g env st1).bind fun u st2 => Rs.of ((inU st2 k u).map fun b => U.bl (!b)) st2 := (rfl)
@[simp] theorem sPutG_ap (f g e : DE) (env : Env) (st : Store) : sPutG f g e env st = (e env st).out env fun v st1 => (f env st1).out env fun u st2 => (g env st2).out env fun k st3 => match u with
  | .ref n => match st3[n]? with
    | some ob => match putO ob k v with
      | some ob' => .nx env (st3.set n ob')
      | none => .bad
    | none => .bad
  | _ => .bad := (rfl)
@[simp] theorem newD_ap (f : DKv) (env : Env) (st : Store) : newD f env st = (f env st).bind fun g st1 => .ok (mkD g) st1 := (rfl)
@[simp] theorem refDn_ap (f : DKv) (env : Env) (st : Store) : refDn f env st = (f env st).bind fun g st1 => .ok (.ref st1.length) (st1 ++ [mkOb g]) := (rfl)
@[simp] theorem cpyK_ap (f : DE) (env : Env) (st : Store) : cpyK f env st = (f env st).bind fun u st1 => Rs.of (dictAt st1 u) st1 := (rfl)
@[simp] theorem appW_ap (g : List U → Store → Rs U) (fa : DA) (env : Env) (st : Store) : appW g fa env st = (fa env st).bind fun us st1 => if noRefs (us.map (der st1)) = true then match g (us.map (der st1)) [] with
  | .ok u [] => if tupU u = true then .ok u st1 else .bad
  | .ex c fs [] => .ex c fs st1
  | _ => .bad
  else .bad := (rfl)
@[simp] theorem binW_ap (g : U → U → Option U) (a b : DE) (env : Env) (st : Store) : binW g a b env st = (a env st).bind fun u st1 => (b env st1).bind fun v st2 => if noRef (der st2 u) = true ∧ noRef (der st2 v) = true then Rs.of (flat1 (g (der st2 u) (der st2 v))) st2 else .bad := (rfl)
end D
namespace D
open PySem L2
/-- an iterator that can be drawn from once more -/
structure Drw (prog : Program) (w : World) (i l : Addr) (I J : Heap → Prop) (x : Value) : Prop where
  draw : ∀ (A : Around) (E : Value → Shared → Prop) (s : Shared) (Q : Value → Shared → Prop), I s.heap → (∀ h', J h' → Heap.SameBut i s.heap h' → Q x { heap := h', gens := s.gens, drawn := s.drawn, toks := s.toks, os := s.os }) → wpAny (model prog w) A (Builtin.SmallTypes.nextOf (Value.ref i)) Q E s
  atI : ∀ h h', I h → (∀ o, h.get? i = some o → h'.get? i = some o) → (∀ o, h.get? l = some o → h'.get? l = some o) → I h'
  atJ : ∀ h h', J h → (∀ o, h.get? i = some o → h'.get? i = some o) → (∀ o, h.get? l = some o → h'.get? l = some o) → J h'
structure DrwE (prog : Program) (w : World) (i l : Addr) (I : Heap → Prop) : Prop where
  draw : ∀ (A : Around) (E : Value → Shared → Prop) (s : Shared) (Q : Value → Shared → Prop), A.handled = none → I s.heap → (∀ h' e, Heap.ExtBut i s.heap h' → (∃ o, h'.get? e = some o ∧ o.cls = Value.type "StopIteration") → E (Value.ref e) { heap := h', gens := s.gens, drawn := s.drawn, toks := s.toks, os := s.os }) → wpAny (model prog w) A (Builtin.SmallTypes.nextOf (Value.ref i)) Q E s
  atI : ∀ h h', I h → (∀ o, h.get? i = some o → h'.get? i = some o) → (∀ o, h.get? l = some o → h'.get? l = some o) → I h'
/-- an iterator over items -/
structure Itr (prog : Program) (w : World) (i l : Addr) (xs : Array Value) (S : Nat → Heap → Prop) : Prop where
  item : ∀ k x, xs[k]? = some x → Drw prog w i l (S k) (S (k + 1)) x
  stop : ∀ k, xs[k]? = none → DrwE prog w i l (S k)
  there : ∀ k h, S k h → (∃ o, h.get? i = some o) ∧ ∃ o, h.get? l = some o
  at_ : ∀ k h h', S k h → (∀ o, h.get? i = some o → h'.get? i = some o) → (∀ o, h.get? l = some o → h'.get? l = some o) → S k h'
theorem itr_list {prog : Program} {w : World} {i l : Addr} {xs : Array Value} (ne : l ≠ i) : Itr prog w i l xs (fun k h => h.IsListIter i l k ∧ h.IsList l xs) := by
  have at_ : ∀ k (h h' : Heap), (h.IsListIter i l k ∧ h.IsList l xs) → (∀ o, h.get? i = some o → h'.get? i = some o) → (∀ o, h.get? l = some o → h'.get? l = some o) → h'.IsListIter i l k ∧ h'.IsList l xs := fun k h h' q q1 q2 => ⟨q.1.at q1, let ⟨o, a, b⟩ := q.2; ⟨o, q2 o a, b⟩⟩
  refine ⟨fun k x hx => ⟨fun A E s Q q c => ?_, at_ k, at_ (k + 1)⟩, fun k hx => ⟨fun A E s Q hA q c => ?_, at_ k⟩, fun k h q => ⟨let ⟨o, a, _⟩ := q.1; ⟨o, a⟩, let ⟨o, a, _⟩ := q.2; ⟨o, a⟩⟩, at_⟩
  · exact wpAny_nextOf_list_item q.1 q.2 hx fun h' j sb => c h' ⟨j, let ⟨o, a, b⟩ := q.2; ⟨o, (sb.2 _ ne).trans a, b⟩⟩ sb
  · exact wpAny_nextOf_list_end hA q.1 q.2 hx c
theorem itr_tuple {prog : Program} {w : World} {i l : Addr} {xs : Array Value} (ne : l ≠ i) : Itr prog w i l xs (fun k h => h.IsTupleIter i l k ∧ h.IsTuple l xs) := by
  have at_ : ∀ k (h h' : Heap), (h.IsTupleIter i l k ∧ h.IsTuple l xs) → (∀ o, h.get? i = some o → h'.get? i = some o) → (∀ o, h.get? l = some o → h'.get? l = some o) → h'.IsTupleIter i l k ∧ h'.IsTuple l xs := fun k h h' q q1 q2 => ⟨let ⟨o, a, b⟩ := q.1; ⟨o, q1 o a, b⟩, let ⟨o, a, b⟩ := q.2; ⟨o, q2 o a, b⟩⟩
  refine ⟨fun k x hx => ⟨fun A E s Q q c => ?_, at_ k, at_ (k + 1)⟩, fun k hx => ⟨fun A E s Q hA q c => ?_, at_ k⟩, fun k h q => ⟨let ⟨o, a, _⟩ := q.1; ⟨o, a⟩, let ⟨o, a, _⟩ := q.2; ⟨o, a⟩⟩, at_⟩
  · exact wpAny_nextOf_tuple_item q.1 q.2 hx fun h' j sb => c h' ⟨j, let ⟨o, a, b⟩ := q.2; ⟨o, (sb.2 _ ne).trans a, b⟩⟩ sb
  · exact wpAny_nextOf_tuple_end hA q.1 q.2 hx c
def seqAt (st : Store) : U → Option (List U)
  | .tup us => some us
  | .lst us => some us
  | .scr ns => some (ns.map U.int)
  | .ref n => match st[n]? with
    | some (.lst us) => some us
    | _ => none
  | _ => none
def zipKV (st : Store) : List U → Option (List (Key × U))
  | [u, v] => (seqAt st u).bind fun ks => (kOfs ks).bind fun kk => (seqAt st v).map fun vs => mergeG [] (kk.zip vs)
  | _ => none
def zipK (f : DA) : DKv := fun env st => (f env st).bind fun us st1 => Rs.of (zipKV st1 us) st1
/-- a sequence that can be walked -/
theorem walk_of {X : Cx} {pins : List (Addr × Obj)} {sg : L2.St} {H : Hp} {s : Shared} (I : Inv X pins sg H s) {a : Addr} {vs : List V} (h : SqL X.K H a vs ∨ SqT X.K H a vs) : ∃ (its : List Value) (ob : Obj) (Hh : Heap → Prop) (S : Addr → Nat → Heap → Prop), Vals vs its ∧ its.length ≤ sizeLine ∧ Begins (.ref a) ob Hh ∧ Hh s.heap ∧ (∃ o, s.heap.get? a = some o) ∧
    ∀ i, a ≠ i → Itr X.prog X.w i a its.toArray (S i) ∧ ∀ h', h'.get? i = some ob → (∀ o, s.heap.get? a = some o → h'.get? a = some o) → S i 0 h' := by
  rcases h with h | h
  · obtain ⟨its, v, p, z⟩ := I.list h
    have hl := p.isList
    refine ⟨its, _, _, fun i k h => h.IsListIter i a k ∧ h.IsList a its.toArray, v, ?_, begins_list a its.toArray, hl, let ⟨o, q, _⟩ := hl; ⟨o, q⟩, fun i ne => ⟨itr_list ne, fun h' q1 q2 => ⟨⟨_, q1, rfl, rfl⟩, let ⟨o, q, r⟩ := hl; ⟨o, q2 o q, r⟩⟩⟩⟩
    rw [← v.length]; exact z
  · obtain ⟨its, v, p, z⟩ := I.tuple h
    have hl : s.heap.IsTuple a its.toArray := p
    refine ⟨its, _, _, fun i k h => h.IsTupleIter i a k ∧ h.IsTuple a its.toArray, v, ?_, begins_tuple a its.toArray, hl, let ⟨o, q, _⟩ := hl; ⟨o, q⟩, fun i ne => ⟨itr_tuple ne, fun h' q1 q2 => ⟨⟨_, q1, rfl, rfl⟩, let ⟨o, q, r⟩ := hl; ⟨o, q2 o q, r⟩⟩⟩⟩
    rw [← v.length]; exact z
@[simp] theorem zipK_ap (f : DA) (env : Env) (st : Store) : zipK f env st = (f env st).bind fun us st1 => Rs.of (zipKV st1 us) st1 := (rfl)
end D
namespace D
open PySem L2
end D
namespace D
open PySem L2
section
variable {X : Cx} {xs : XS} {wx : WX} {pos : Pos}
/-- list(x), whatever x is -/
def lstG (f : DE) : DL := fun env st => (f env st).bind fun u st1 => Rs.of (seqAt st1 u) st1
/-- tuple(x), whatever x is -/
def tupG (f : DE) : DE := fun env st => (f env st).bind fun u st1 => Rs.of ((seqAt st1 u).map U.tup) st1
/-- x[::-1], whatever x is -/
def backG (f : DE) : DL := fun env st => (f env st).bind fun u st1 => match u with
  | .tup _ => .bad
  | u => Rs.of ((seqAt st1 u).map List.reverse) st1
/-- o.pop() -/
def popR0 (f : DE) : DE := fun env st => (f env st).bind fun u st1 => match u with
  | .ref n => match st1[n]? with
    | some (.lst us) => match us.getLast? with
      | some y => .ok y (st1.set n (.lst us.dropLast))
      | none => .bad
    | _ => .bad
  | _ => .bad
/-- o == [], o != [] -/
def nilG (neg : Bool) (f : DE) : DE := fun env st => (f env st).bind fun u st1 => match u with
  | .lst us => .ok (.bl (us.isEmpty != neg)) st1
  | .ref n => match st1[n]? with
    | some (.lst us) => .ok (.bl (us.isEmpty != neg)) st1
    | _ => .bad
  | _ => .bad
/-- len(x), whatever x is -/
def lenG (f : DE) : DE := fun env st => (f env st).bind fun u st1 => match u with
  | .ref n => match st1[n]? with
    | some (.lst us) => .ok (.int us.length) st1
    | some (.dct ks _) => .ok (.int ks.length) st1
    | _ => .bad
  | u => Rs.of (lenN [u]) st1
end
@[simp] theorem lstG_ap (f : DE) (env : Env) (st : Store) : lstG f env st = (f env st).bind fun u st1 => Rs.of (seqAt st1 u) st1 := (rfl)
@[simp] theorem tupG_ap (f : DE) (env : Env) (st : Store) : tupG f env st = (f env st).bind fun u st1 => Rs.of ((seqAt st1 u).map U.tup) st1 := (rfl)
@[simp] theorem backG_ap (f : DE) (env : Env) (st : Store) : backG f env st = (f env st).bind fun u st1 => match u with
  | .tup _ => .bad
  | u => Rs.of ((seqAt st1 u).map List.reverse) st1 := (rfl)
@[simp] theorem popR0_ap (f : DE) (env : Env) (st : Store) : popR0 f env st = (f env st).bind fun u st1 => match u with
  | .ref n => match st1[n]? with
    | some (.lst us) => match us.getLast? with
      | some y => .ok y (st1.set n (.lst us.dropLast))
      | none => .bad
    | _ => .bad
  | _ => .bad := (rfl)
@[simp] theorem nilG_ap (neg : Bool) (f : DE) (env : Env) (st : Store) : nilG neg f env st = (f env st).bind fun u st1 => match u with
  | .lst us => .ok (.bl (us.isEmpty != neg)) st1
  | .ref n => match st1[n]? with
    | some (.lst us) => .ok (.bl (us.isEmpty != neg)) st1
    | _ => .bad
  | _ => .bad := (rfl)
@[simp] theorem lenG_ap (f : DE) (env : Env) (st : Store) : lenG f env st = (f env st).bind fun u st1 => match u with
  | .ref n => match st1[n]? with
    | some (.lst us) => .ok (.int us.length) st1
    | some (.dct ks _) => .ok (.int ks.length) st1
    | _ => .bad
  | u => Rs.of (lenN [u]) st1 := (rfl)
end D
namespace D
open PySem L2
/-- the two heaps differ by a lock at d alone -/
structure Lk (d : Addr) (o : Obj) (kvs : List (Key × V)) (H H' : Hp) : Prop where
  at_ : (H d = some (.dK kvs) ∧ H' d = some (.frz o (.dK kvs))) ∨ (H d = some (.frz o (.dK kvs)) ∧ H' d = some (.dK kvs))
  ne : ∀ a, a ≠ d → H' a = H a
section
variable {K : PySem.W.Frag} {W : Addr → Prop} {io : List Addr} {H H' : Hp} {d : Addr} {o : Obj} {kvs : List (Key × V)}
theorem Lk.off (k : Lk d o kvs H H') {a : Addr} {x : HO} (h : H a = some x) (n1 : ∀ kv, x ≠ .dK kv) (n2 : ∀ y kv, x ≠ .frz y (.dK kv)) : H' a = some x := by
  by_cases e : a = d
  · subst e
    rcases k.at_ with ⟨q, _⟩ | ⟨q, _⟩ <;> rw [q] at h <;> cases h
    · exact absurd rfl (n1 _)
    · exact absurd rfl (n2 _ _)
  · rw [k.ne a e]; exact h
theorem Lk.rd (k : Lk d o kvs H H') {a : Addr} {x : HO} (nf : ∀ y z, x ≠ .frz y z) (h : Rd H a x) : Rd H' a x := by
  by_cases e : a = d
  · subst e
    rcases k.at_ with ⟨q, q'⟩ | ⟨q, q'⟩ <;> rcases h with h | ⟨y, h⟩ <;> rw [q] at h <;> cases h
    · exact .inr ⟨o, q'⟩
    · exact absurd rfl (nf _ _)
    · exact .inl q'
  · rcases h with h | ⟨y, h⟩
    · exact .inl (by rw [k.ne a e]; exact h)
    · exact .inr ⟨y, by rw [k.ne a e]; exact h⟩
theorem Lk.ll (k : Lk d o kvs H H') {a : Addr} {xs : List V} (h : LL K W H a xs) : LL K W H' a xs := ⟨k.off h.1 (fun _ z => nomatch z) (fun _ _ z => nomatch z), h.2⟩
theorem Lk.ls (k : Lk d o kvs H H') {a : Addr} {xs : List V} (h : LS K W H a xs) : LS K W H' a xs := h.imp (fun z => ⟨k.rd (fun _ _ y => nomatch y) z.1, z.2⟩) id
theorem Lk.lt (k : Lk d o kvs H H') {a : Addr} {xs : List V} (h : LT K W H a xs) : LT K W H' a xs := h.imp (fun z => ⟨k.rd (fun _ _ y => nomatch y) z.1, z.2⟩) id
theorem Lk.ld (k : Lk d o kvs H H') {a : Addr} {ks : List U} {vs : List V} (h : LD W H a ks vs) : LD W H' a ks vs := ⟨h.1, h.2.imp (fun ⟨kv, q1, q2⟩ => ⟨kv, k.rd (fun _ _ y => nomatch y) q1, q2⟩) (fun ⟨kv, q1, q2⟩ => ⟨kv, k.off q1 (fun _ z => nomatch z) (fun _ _ z => nomatch z), q2⟩)⟩
mutual
theorem Lk.rep (k : Lk d o kvs H H') : ∀ (u : U) (v : V), Rep K W io H u v → Rep K W io H' u v
  | .non, v, h => by unfold Rep at h ⊢; exact h
  | .bl b, v, h => by unfold Rep at h ⊢; exact h
  | .int i, v, h => by unfold Rep at h ⊢; exact h
  | .str x, v, h => by unfold Rep at h ⊢; exact h
  | .ty n, v, h => by unfold Rep at h ⊢; exact h
  | .ref n, v, h => by unfold Rep at h ⊢; exact h
  | .tup us, v, h => by
    unfold Rep at h ⊢
    obtain ⟨a, vs, h1, h2, h3⟩ := h
    exact ⟨a, vs, h1, k.lt h2, Lk.reps k us vs h3⟩
  | .lst us, v, h => by
    unfold Rep at h ⊢
    obtain ⟨a, vs, h1, h2, h3⟩ := h
    exact ⟨a, vs, h1, k.ll h2, Lk.reps k us vs h3⟩
  | .dct ks us, v, h => by
    unfold Rep at h ⊢
    obtain ⟨a, vs, h1, h2, h3⟩ := h
    exact ⟨a, vs, h1, k.ld h2, Lk.reps k us vs h3⟩
  | .scr ns, v, h => by
    unfold Rep at h ⊢
    obtain ⟨a, h1, h2⟩ := h
    exact ⟨a, h1, k.ls h2⟩
theorem Lk.reps (k : Lk d o kvs H H') : ∀ (us : List U) (vs : List V), Reps K W io H us vs → Reps K W io H' us vs
  | [], vs, h => by unfold Reps at h ⊢; exact h
  | u :: us, vs, h => by
    unfold Reps at h ⊢
    obtain ⟨v, r, h1, h2, h3⟩ := h
    exact ⟨v, r, h1, Lk.rep k u v h2, Lk.reps k us r h3⟩
end
theorem Lk.ok {G : Addr → Prop} {st : Store} (k : Lk d o kvs H H') (nd : ¬ Wf G io d) (ok : Ok K G io st H) : Ok K G io st H' := by
  have nea : ∀ a, Wf G io a → a ≠ d := fun a ha e => nd (e ▸ ha)
  refine ⟨ok.nd, ok.dj, fun a ha => let ⟨x, e, n⟩ := ok.trk a ha; ⟨x, by rw [k.ne a (nea a ha)]; exact e, n⟩, ok.len, fun n ob a e1 e2 => ?_⟩
  have ha := k.ne a (nea a (.inr (List.mem_of_getElem? e2)))
  have q := ok.obs n ob a e1 e2
  cases ob with
  | lst us => obtain ⟨vs, q1, q2⟩ := q; exact ⟨vs, ha.trans q1, k.reps _ _ q2⟩
  | dct ks us => obtain ⟨kv, q1, q2, q3⟩ := q; exact ⟨kv, ha.trans q1, q2, k.reps _ _ q3⟩
  | dcT ks us => obtain ⟨kv, q1, q2, q3⟩ := q; exact ⟨kv, ha.trans q1, q2, k.reps _ _ q3⟩
  | obj c fs => obtain ⟨C, dx, vs, q1, q2, q3⟩ := q; exact ⟨C, dx, vs, q1, ha.trans q2, k.reps _ _ q3⟩
  | ins c fs =>
    obtain ⟨C, dd, q1, q2, q3⟩ := q
    exact ⟨C, dd, q1, ha.trans q2, q3.keep fun x ws z => k.off z (fun _ y => nomatch y) (fun _ _ y => nomatch y)⟩
  | gone => trivial
theorem Lk.env {G : Addr → Prop} {env : Env} {sg : L2.St} (k : Lk d o kvs H H') (er : EnvRep K G io H env sg) : EnvRep K G io H' env sg := ⟨er.len, fun i s x e1 e2 => by
  have q := er.sl i s x e1 e2
  cases s with
  | un => trivial
  | val u => obtain ⟨v, q1, q2⟩ := q; exact ⟨v, q1, k.rep _ _ q2⟩
  | own us =>
    obtain ⟨a, vs, q1, q2, q3, q4⟩ := q
    exact ⟨a, vs, q1, q2, k.off q3 (fun _ z => nomatch z) (fun _ _ z => nomatch z), k.reps _ _ q4⟩⟩
theorem Lk.fr {F : Addr → Prop} {st : Store} {env : Env} {sg : L2.St} (k : Lk d o kvs H H') (nd : ¬ Wf (Gs F env sg) io d) (f : Fr K F io st env sg H) : Fr K F io st env sg H' := ⟨k.ok nd f.ok, k.env f.er, f.nF, f.dd⟩
end
def noExO : Out → Out
  | .ex _ _ _ _ => .bad
  | x => x
def sForK (i : Nat) (t : Tg) (b : DS) : DS := fun env st => match env[i]? with
  | some (.val (.dct ks us)) => match kvsOf ks us with
    | some _ => noExO (forL t b ks env st)
    | none => .bad
  | _ => .bad
@[simp] theorem sForK_ap (i : Nat) (t : Tg) (b : DS) (env : Env) (st : Store) : sForK i t b env st = match env[i]? with
  | some (.val (.dct ks us)) => match kvsOf ks us with
    | some _ => noExO (forL t b ks env st)
    | none => .bad
  | _ => .bad := (rfl)
end D
namespace D
open PySem L2
section
variable {X : Cx} {xs : XS} {wx : WX} {pos : Pos}
/-- dict(list of pairs) -/
def pairKV : List U → Option (List (Key × U))
  | [] => some []
  | .tup [k, v] :: r => match kOf k, pairKV r with
    | some kk, some l => some ((kk, v) :: l)
    | _, _ => none
  | _ => none
def prsK (f : DE) : DKv := fun env st => (f env st).bind fun u st1 => match u with
  | .lst us => Rs.of ((pairKV us).map fun l => mergeG [] l) st1
  | _ => .bad
theorem pairKV_rep {K : PySem.W.Frag} {W : Addr → Prop} {io : List Addr} {H : Hp} : ∀ {us : List U} {vs : List V} {l : List (Key × U)}, Reps K W io H us vs → pairKV us = some l → ∃ (ps : List Addr) (kvs : List (Key × V)), vs = ps.map V.ref ∧ Paired (fun p kv => SqT K H p [kV kv.1, kv.2]) ps kvs ∧ KR K W io H l kvs
  | [], vs, l, r, h => by
    cases h
    rw [r.isNil]
    exact ⟨[], [], rfl, .nil, .nil⟩
  | u :: us, vs, l, r, h => by
    obtain ⟨v, t, rfl, r1, r2⟩ := r.uncons
    unfold pairKV at h
    split at h
    · rename_i z; cases z
    · rename_i k w us' z
      cases z
      split at h
      · rename_i kk l' h1 h2
        cases h
        obtain ⟨ps, kvs, e1, e2, e3⟩ := pairKV_rep r2 h2
        obtain ⟨a, ws, rfl, lt, rs⟩ := r1.tup'
        obtain ⟨x, t', rfl, rk, rs'⟩ := rs.uncons
        obtain ⟨y, t'', rfl, rw', rn⟩ := rs'.uncons
        rw [rn.isNil] at lt
        have ek := kOf_rep rk h1
        subst ek
        exact ⟨a :: ps, (kk, y) :: kvs, by rw [e1]; rfl, .cons lt.sq e2, .cons ⟨rfl, rw'⟩ e3⟩
      · cases h
    · cases h
theorem k_prs {e : Expr} {f : DE} {p : Pos} (hc : X.calm = true) (hg : Gl X "dict") (hm : X.mg "dict" = none) (he : PE X e (tD X.K xs wx f)) (hs : starEach [e] X.env = (false, eval e X.env) :: starEach [] X.env := by rfl) :
    PE X (.Call (.Name "dict" p) [e] [] pos) (tDD X.K xs wx (prsK f)) := by
  refine pe_imp (pe_callTy (pos := pos) (p := p) (call_dictP hc) hg hm bt_dict (pa_cons he pa_nil hs) (by decide) (by decide) hs rfl) fun sg H Q h => ?_
  obtain ⟨G, io, st, env, ok, er, w⟩ := h
  refine ⟨G, io, st, env, ok, er, w.bind.impR fun st1 io1 H1 u ok1 e1 w1 v rv => ?_⟩
  cases u with
  | lst us =>
    simp only at w1
    obtain ⟨g, hg, w2⟩ := w1.pure
    cases hl : pairKV us with
    | none => rw [hl] at hg; cases hg
    | some l =>
      rw [hl] at hg; cases hg
      obtain ⟨a, vs, rfl, ll, r⟩ := rv.lst'
      obtain ⟨ps, kvs, e1, e2, e3⟩ := pairKV_rep r hl
      subst e1
      exact ⟨a, ps, kvs, rfl, ll.sq, e2, fun p hp => w2.here ok1 _ p (e3.merge .nil) hp⟩
  | _ => exact w1.elim
end
@[simp] theorem prsK_ap (f : DE) (env : Env) (st : Store) : prsK f env st = (f env st).bind fun u st1 => match u with
  | .lst us => Rs.of ((pairKV us).map fun l => mergeG [] l) st1
  | _ => .bad := (rfl)
end D
namespace D
open PySem L2
def lsAt (st : Store) : U → Option (List U)
  | .lst us => some us
  | .ref n => match st[n]? with
    | some (.lst us) => some us
    | _ => none
  | _ => none
def catG (f g : DE) : DL := fun env st => (f env st).bind fun u st1 => (g env st1).bind fun v st2 => match lsAt st2 u, lsAt st2 v with
  | some a, some b => if a.length + b.length ≤ sizeLine then .ok (a ++ b) st2 else .bad
  | _, _ => .bad
@[simp] theorem catG_ap (f g : DE) (env : Env) (st : Store) : catG f g env st = (f env st).bind fun u st1 => (g env st1).bind fun v st2 => match lsAt st2 u, lsAt st2 v with
  | some a, some b => if a.length + b.length ≤ 16777216 then .ok (a ++ b) st2 else .bad
  | _, _ => .bad := by rw [← sizeLine_val]; rfl
@[simp] theorem lsAt_lst (st : Store) (us : List U) : lsAt st (.lst us) = some us := (rfl)
@[simp] theorem lsAt_ref (st : Store) (n : Nat) : lsAt st (.ref n) = match st[n]? with
  | some (.lst us) => some us
  | _ => none := (rfl)
end D
namespace D
open PySem L2
def selD (g1 g2 g3 : List U → Store → Rs U) (fi : DE) (fa : DA) : DE := fun env st => (fi env st).bind fun u st1 => match u with
  | .int i => if i = 0 then appU g1 fa env st1 else if i = 1 then appU g2 fa env st1 else if i = 2 then appU g3 fa env st1 else .bad
  | _ => .bad
@[simp] theorem selD_ap (g1 g2 g3 : List U → Store → Rs U) (fi : DE) (fa : DA) (env : Env) (st : Store) : selD g1 g2 g3 fi fa env st = (fi env st).bind fun u st1 => match u with
  | .int i => if i = 0 then appU g1 fa env st1 else if i = 1 then appU g2 fa env st1 else if i = 2 then appU g3 fa env st1 else .bad
  | _ => .bad := (rfl)
end D
set_option maxHeartbeats 4000000
namespace D
open PySem PySem.Spec PyProof.Rows L2
def mulT2 : U → U → Option U
  | .tup x, .int k => if 0 ≤ k ∧ k ≤ 1000 ∧ x ≠ [] ∧ x.length ≤ 1000 then some (.tup (List.replicate k.toNat x).flatten) else none
  | _, _ => none
@[simp] theorem mulT_ap (x : List U) (k : Int) : mulT2 (.tup x) (.int k) = if 0 ≤ k ∧ k ≤ 1000 ∧ x ≠ [] ∧ x.length ≤ 1000 then some (.tup (List.replicate k.toNat x).flatten) else none := (rfl)
end D
set_option maxHeartbeats 4000000
namespace D
open PySem PySem.Spec PyProof.Rows L2
/-- a built-in of what is looked at, deep within -/
def appNW (g : List U → Option U) (fa : DA) : DE := fun env st => (fa env st).bind fun us st1 => if noRefs (us.map (der st1)) = true then Rs.of ((g (us.map (der st1))).bind fun u => match u with
  | .str x => some (.str x)
  | _ => none) st1 else .bad
@[simp] theorem appNW_ap (g : List U → Option U) (fa : DA) (env : Env) (st : Store) : appNW g fa env st = (fa env st).bind fun us st1 => if noRefs (us.map (der st1)) = true then Rs.of ((g (us.map (der st1))).bind fun u => match u with
  | .str x => some (.str x)
  | _ => none) st1 else .bad := (rfl)
end D
set_option maxHeartbeats 4000000
namespace D
open PySem PySem.Spec PyProof.Rows L2
end D
set_option maxHeartbeats 4000000
namespace D
open PySem L2
mutual
def lowRef (n : Nat) : U → Bool
  | .ref j => decide (j < n)
  | .tup us => lowRefs n us
  | .lst us => lowRefs n us
  | .dct _ us => lowRefs n us
  | _ => true
def lowRefs (n : Nat) : List U → Bool
  | [] => true
  | u :: us => lowRef n u && lowRefs n us
end
def lowOb (n : Nat) : Ob → Bool
  | .lst us => lowRefs n us
  | .dct _ us => lowRefs n us
  | .dcT _ us => lowRefs n us
  | .obj _ fs => lowRefs n (fs.map (·.2))
  | .ins _ _ => true
  | .gone => true
def lowSt (n : Nat) (st : Store) : Bool := st.all (lowOb n)
def derN : Nat → Nat → Store → U → U
  | 0, _, _, u => u
  | k + 1, n, st, .ref j => if j < n then .ref j else match st[j]? with
    | some (.lst us) => .lst (us.map (derN k n st))
    | some (.dct ks us) => .dct ks (us.map (derN k n st))
    | some (.dcT (k0 :: ks) us) => .dct ((k0 :: ks).map U.tup) (us.map (derN k n st))
    | _ => .ref j
  | k + 1, n, st, .tup us => .tup (us.map (derN k n st))
  | k + 1, n, st, .lst us => .lst (us.map (derN k n st))
  | k + 1, n, st, .dct ks us => .dct ks (us.map (derN k n st))
  | _ + 1, _, _, u => u
def cutZ (n : Nat) (r : Rs U) : Rs U := match r with
  | .ok u st => if lowSt n (st.take n) = true ∧ lowRef n (derN 12 n st u) = true then .ok (derN 12 n st u) (st.take n) else .bad
  | .ex c fs st => if lowSt n (st.take n) = true then .ex c fs (st.take n) else .bad
  | .bad => .bad
def zD (f : DE) : DE := fun env st => cutZ st.length (f env st)
@[simp] theorem zD_ap (f : DE) (env : Env) (st : Store) : zD f env st = cutZ st.length (f env st) := (rfl)
section
variable {K : PySem.W.Frag} {G : Addr → Prop} {io more : List Addr} {H : Hp}
theorem wf_more {a : Addr} (h : Wf G io a) : Wf G (io ++ more) a := h.imp id fun z => List.mem_append_left _ z
mutual
theorem low_rep : ∀ (u : U) (v : V), lowRef io.length u = true → Rep K (Wf G (io ++ more)) (io ++ more) H u v → Rep K (Wf G io) io H u v
  | .non, v, _, h => by unfold Rep at h ⊢; exact h
  | .bl b, v, _, h => by unfold Rep at h ⊢; exact h
  | .int i, v, _, h => by unfold Rep at h ⊢; exact h
  | .str x, v, _, h => by unfold Rep at h ⊢; exact h
  | .ty n, v, _, h => by unfold Rep at h ⊢; exact h
  | .ref j, v, n, h => by
    unfold Rep at h ⊢
    unfold lowRef at n
    have n := of_decide_eq_true n
    obtain ⟨a, e, r⟩ := h
    rw [List.getElem?_append_left n] at e
    exact ⟨a, e, r⟩
  | .tup us, v, n, h => by
    unfold Rep at h ⊢
    unfold lowRef at n
    obtain ⟨a, vs, e, l, r⟩ := h
    exact ⟨a, vs, e, l.imp (fun z => ⟨z.1, fun y => z.2 (wf_more y)⟩) id, low_reps us vs n r⟩
  | .lst us, v, n, h => by
    unfold Rep at h ⊢
    unfold lowRef at n
    obtain ⟨a, vs, e, l, r⟩ := h
    exact ⟨a, vs, e, ⟨l.1, fun y => l.2 (wf_more y)⟩, low_reps us vs n r⟩
  | .dct ks us, v, n, h => by
    unfold Rep at h ⊢
    unfold lowRef at n
    obtain ⟨a, vs, e, l, r⟩ := h
    exact ⟨a, vs, e, ⟨fun y => l.1 (wf_more y), l.2⟩, low_reps us vs n r⟩
  | .scr ns, v, _, h => by
    unfold Rep at h ⊢
    obtain ⟨a, e, l⟩ := h
    exact ⟨a, e, l.imp (fun z => ⟨z.1, fun y => z.2 (wf_more y)⟩) id⟩
theorem low_reps : ∀ (us : List U) (vs : List V), lowRefs io.length us = true → Reps K (Wf G (io ++ more)) (io ++ more) H us vs → Reps K (Wf G io) io H us vs
  | [], vs, _, r => by rw [r.isNil]; exact .nil
  | u :: us, vs, n, r => by
    obtain ⟨v, t, rfl, r1, r2⟩ := r.uncons
    unfold lowRefs at n
    rw [Bool.and_eq_true] at n
    exact .cons (low_rep u v n.1 r1) (low_reps us t n.2 r2)
end
theorem low_ob {a : Addr} : ∀ (ob : Ob), lowOb io.length ob = true → ObRep K (Wf G (io ++ more)) (io ++ more) H a ob → ObRep K (Wf G io) io H a ob
  | .lst us, n, ⟨vs, h, r⟩ => ⟨vs, h, low_reps us vs n r⟩
  | .dct ks us, n, ⟨kvs, h, e, r⟩ => ⟨kvs, h, e, low_reps us _ n r⟩
  | .dcT ks us, n, ⟨kvs, h, e, r⟩ => ⟨kvs, h, e, low_reps us _ n r⟩
  | .obj c fs, n, ⟨C, dx, vs, h1, h2, r⟩ => ⟨C, dx, vs, h1, h2, low_reps _ vs n r⟩
  | .ins c fs, _, h => h
  | .gone, _, h => h
theorem Ok.cut {st1 st2 : Store} {H1 : Hp} (ok1 : Ok K G io st1 H1) (ok2 : Ok K G (io ++ more) st2 H) (hl : lowSt st1.length (st2.take st1.length) = true) : Ok K G io (st2.take st1.length) H := by
  have hn : st1.length = io.length := ok1.len
  have h2 : st2.length = io.length + more.length := by rw [ok2.len, List.length_append]
  refine ⟨ok1.nd, ok1.dj, fun a h => ok2.trk a (wf_more h), by rw [List.length_take]; omega, fun j ob a e1 e2 => ?_⟩
  have hj : j < io.length := (List.getElem?_eq_some_iff.mp e2).1
  have e1' := e1
  rw [List.getElem?_take_of_lt (by omega)] at e1
  have o := ok2.obs j ob a e1 (by rw [List.getElem?_append_left hj]; exact e2)
  unfold lowSt at hl
  rw [List.all_eq_true] at hl
  have := hl ob (List.mem_of_getElem? e1')
  rw [hn] at this
  exact low_ob ob this o
theorem ders_n {f : U → U} (ih : ∀ (u : U) (v : V), Rep K (Wf G (io ++ more)) (io ++ more) H u v → lowRef io.length (f u) = true → Rep K (Wf G io) io H (f u) v) : ∀ {us : List U} {vs : List V}, Reps K (Wf G (io ++ more)) (io ++ more) H us vs → lowRefs io.length (us.map f) = true → Reps K (Wf G io) io H (us.map f) vs
  | [], vs, r, _ => by rw [r.isNil]; exact .nil
  | u :: us, vs, r, h => by
    obtain ⟨v, t, rfl, r1, r2⟩ := r.uncons
    rw [List.map_cons] at h ⊢
    unfold lowRefs at h
    rw [Bool.and_eq_true] at h
    exact .cons (ih u v r1 h.1) (ders_n ih r2 h.2)
theorem derN_rep {st : Store} (ok : Ok K G (io ++ more) st H) : ∀ (k : Nat) (u : U) (v : V), Rep K (Wf G (io ++ more)) (io ++ more) H u v → lowRef io.length (derN k io.length st u) = true → Rep K (Wf G io) io H (derN k io.length st u) v
  | 0, u, v, r, h => by unfold derN at h ⊢; exact low_rep u v h r
  | k + 1, u, v, r, h => by
    have ih := derN_rep ok k
    cases u with
    | ref j =>
      unfold derN at h ⊢
      by_cases hj : j < io.length
      · rw [if_pos hj] at h ⊢
        exact low_rep _ v h r
      · rw [if_neg hj] at h ⊢
        cases q : st[j]? with
        | none => rw [q] at h; simp only at h; unfold lowRef at h; exact absurd (of_decide_eq_true h) hj
        | some ob =>
          rw [q] at h
          unfold Rep at r
          obtain ⟨a, e1, rfl⟩ := r
          have o := ok.obs j ob a q e1
          have ha : ¬ Wf G io a := fun z => by
            rcases z with z | z
            · exact ok.dj a (List.mem_of_getElem? e1) z
            · rw [List.getElem?_append_right (by omega)] at e1
              exact (List.nodup_append.mp ok.nd).2.2 a z a (List.mem_of_getElem? e1) rfl
          cases ob with
          | lst us =>
            simp only at h ⊢
            unfold lowRef at h
            obtain ⟨vs, q1, q2⟩ := o
            unfold Rep
            exact ⟨a, vs, rfl, ⟨q1, ha⟩, ders_n ih q2 h⟩
          | dct ks us =>
            simp only at h ⊢
            unfold lowRef at h
            obtain ⟨kvs, q1, q2, q3⟩ := o
            unfold Rep
            exact ⟨a, _, rfl, ⟨ha, .inl ⟨kvs, .inl q1, q2, rfl⟩⟩, ders_n ih q3 h⟩
          | dcT ks us =>
            cases ks with
            | nil => simp only at h; unfold lowRef at h; exact absurd (of_decide_eq_true h) hj
            | cons k0 ks =>
              simp only at h ⊢
              unfold lowRef at h
              obtain ⟨kvs, q1, q2, q3⟩ := o
              unfold Rep
              exact ⟨a, _, rfl, ⟨ha, .inr ⟨kvs, q1, by rw [q2, List.map_map]; rfl, rfl, fun z => by rw [z] at q2; cases q2⟩⟩, ders_n ih q3 h⟩
          | _ => simp only at h; unfold lowRef at h; exact absurd (of_decide_eq_true h) hj
    | tup us =>
      unfold derN at h ⊢
      unfold lowRef at h
      unfold Rep at r ⊢
      obtain ⟨a, vs, rfl, l, rs⟩ := r
      exact ⟨a, vs, rfl, l.imp (fun z => ⟨z.1, fun y => z.2 (wf_more y)⟩) id, ders_n ih rs h⟩
    | lst us =>
      unfold derN at h ⊢
      unfold lowRef at h
      unfold Rep at r ⊢
      obtain ⟨a, vs, rfl, l, rs⟩ := r
      exact ⟨a, vs, rfl, ⟨l.1, fun y => l.2 (wf_more y)⟩, ders_n ih rs h⟩
    | dct ks us =>
      unfold derN at h ⊢
      unfold lowRef at h
      unfold Rep at r ⊢
      obtain ⟨a, vs, rfl, l, rs⟩ := r
      exact ⟨a, vs, rfl, ⟨fun y => l.1 (wf_more y), l.2⟩, ders_n ih rs h⟩
    | _ => exact low_rep _ v h r
end
section
variable {X : Cx} {xs : XS} {wx : WX} {pos : Pos}
theorem cut_wants {K : PySem.W.Frag} {G : Addr → Prop} {io : List Addr} {st1 : Store} {H1 : Hp} {XR : Str → List (Str × U) → Store → List Addr → Hp → Prop} {Q : VK} {r : Rs U} (ok1 : Ok K G io st1 H1)
    (w : Wants K G io H1 (fun _ io' H' u => ∀ v, Rep K (Wf G io') io' H' u v → Q v H') XR (cutZ st1.length r)) (hx : ∀ c fs st st' io io' H, XR c fs st io H → XR c fs st' io' H) : Wants K G io H1 (fun _ io' H' u => ∀ v, Rep K (Wf G io') io' H' u v → Q v H') XR r := by
  have hn : st1.length = io.length := ok1.len
  cases r with
  | bad => exact w
  | ok u st2 =>
    unfold cutZ at w
    simp only at w
    split at w
    · rename_i hc
      intro io' H' ok2 e2 v rv
      obtain ⟨more, rfl, _⟩ := e2.pre
      have ok3 := ok1.cut ok2 hc.1
      have hd := hc.2
      rw [hn] at hd
      have r3 := derN_rep ok2 12 u v rv hd
      rw [← hn] at r3
      exact w io H' ok3 ⟨⟨[], by simp, fun _ z => nomatch z⟩, e2.keep, e2.stay⟩ v r3
    · exact w.elim
  | ex c fs st2 =>
    unfold cutZ at w
    simp only at w
    split at w
    · rename_i hc
      intro io' H' ok2 e2
      obtain ⟨more, rfl, _⟩ := e2.pre
      have ok3 := ok1.cut ok2 hc
      exact hx _ _ _ _ _ _ _ (w io H' ok3 ⟨⟨[], by simp, fun _ z => nomatch z⟩, e2.keep, e2.stay⟩)
    · exact w.elim
theorem d_zD {e : Expr} {f : DE} (h : PE X e (tD X.K xs wx f)) : PE X e (tD X.K xs wx (zD f)) :=
  pe_imp h fun sg H Q ⟨G, io, st, env, ok, er, w⟩ => ⟨G, io, st, env, ok, er, cut_wants ok w fun _ _ _ _ _ _ _ z => z⟩
end
end D
set_option maxHeartbeats 4000000
namespace D
open PySem L2
def sUnpR (is : List Nat) (f : DE) : DS := fun env st => (f env st).out env fun u st1 => match u with
  | .ref n => match st1[n]? with
    | some (.lst us) => if us.length = is.length then .nx (setE env (is.zip us)) st1 else .bad
    | _ => .bad
  | _ => .bad
@[simp] theorem sUnpR_ap (is : List Nat) (f : DE) (env : Env) (st : Store) : sUnpR is f env st = (f env st).out env fun u st1 => match u with
  | .ref n => match st1[n]? with
    | some (.lst us) => if us.length = is.length then .nx (setE env (is.zip us)) st1 else .bad
    | _ => .bad
  | _ => .bad := (rfl)
def cutT (n : Nat) (r : Rs U) : Rs U := match r with
  | .ok (.ref j) st => match st[j]? with
    | some (.lst us) => if n ≤ j ∧ lowSt n (st.take n) = true ∧ lowRefs n (us.map (derN 12 n (st.set j .gone))) = true then .ok (.ref n) (st.take n ++ [.lst (us.map (derN 12 n (st.set j .gone)))]) else .bad
    | _ => .bad
  | .ok _ _ => .bad
  | .ex c fs st => if lowSt n (st.take n) = true then .ex c fs (st.take n) else .bad
  | .bad => .bad
def zT (f : DE) : DE := fun env st => cutT st.length (f env st)
@[simp] theorem zT_ap (f : DE) (env : Env) (st : Store) : zT f env st = cutT st.length (f env st) := (rfl)
theorem Ok.gone {K : PySem.W.Frag} {G : Addr → Prop} {io : List Addr} {st : Store} {H : Hp} (ok : Ok K G io st H) (j : Nat) : Ok K G io (st.set j .gone) H := by
  refine ⟨ok.nd, ok.dj, ok.trk, by rw [List.length_set]; exact ok.len, fun n ob a e1 e2 => ?_⟩
  by_cases h : j = n
  · subst h
    have : j < st.length := by
      have := (List.getElem?_eq_some_iff.mp e1).1
      rwa [List.length_set] at this
    rw [List.getElem?_set_self this] at e1
    cases e1
    trivial
  · rw [List.getElem?_set_ne h] at e1
    exact ok.obs n ob a e1 e2
end D
set_option maxHeartbeats 4000000
namespace D
open PySem PySem.Spec PyProof.Rows L2
/-- o.clear() -/
def clrR (f : DE) : DE := fun env st => (f env st).bind fun u st1 => match u with
  | .ref n => match st1[n]? with
    | some (.lst _) => .ok .non (st1.set n (.lst []))
    | _ => .bad
  | _ => .bad
@[simp] theorem clrR_ap (f : DE) (env : Env) (st : Store) : clrR f env st = (f env st).bind fun u st1 => match u with
  | .ref n => match st1[n]? with
    | some (.lst _) => .ok .non (st1.set n (.lst []))
    | _ => .bad
  | _ => .bad := (rfl)
end D
set_option maxHeartbeats 4000000
namespace D
open PySem L2
def txtKeys : List (Key × U) → Option (List Str)
  | [] => some []
  | (.inr x, _) :: r => (txtKeys r).map (x :: ·)
  | (.inl _, _) :: _ => none
theorem txtKeys_eq : ∀ {g : List (Key × U)} {ks : List Str}, txtKeys g = some ks → g.map (·.1) = ks.map Sum.inr
  | [], ks, h => by cases h; rfl
  | (.inr x, u) :: r, ks, h => by
    unfold txtKeys at h
    cases q : txtKeys r with
    | none => rw [q] at h; cases h
    | some l =>
      rw [q] at h; cases h
      rw [List.map_cons, txtKeys_eq q]; rfl
  | (.inl x, u) :: r, ks, h => by unfold txtKeys at h; cases h
def sortDk (g : List (Key × U)) : Option (List U) := (txtKeys g).bind fun ys => if ys.length < 64 then some ((sortS ys).map U.str) else none
/-- sorted(d) -/
def sortD (f : DE) : DL := fun env st => (f env st).bind fun u st1 => Rs.of ((dictAt st1 u).bind sortDk) st1
/-- list(d) -/
def listK (f : DE) : DL := fun env st => (f env st).bind fun u st1 => Rs.of ((dictAt st1 u).map fun g => g.map fun p => kU p.1) st1
theorem KR.fst {K : PySem.W.Frag} {W : Addr → Prop} {io : List Addr} {H : Hp} : ∀ {a : List (Key × U)} {b : List (Key × V)}, KR K W io H a b → a.map (·.1) = b.map (·.1)
  | _, _, .nil => rfl
  | _, _, .cons h t => by rw [List.map_cons, List.map_cons, KR.fst t, h.1]
theorem kU_rep {K : PySem.W.Frag} {W : Addr → Prop} {io : List Addr} {H : Hp} (k : Key) : Rep K W io H (kU k) (kV k) := by cases k <;> (unfold kU kV Rep; rfl)
section
variable {X : Cx} {xs : XS} {wx : WX} {pos : Pos}
theorem l_sortD {e : Expr} {p : Pos} {f : DE} (hc : X.calm = true) (hg : Gl X "sorted") (hm : X.mg "sorted" = none) (he : PE X e (tD X.K xs wx f)) (hs : starEach [e] X.env = (false, eval e X.env) :: starEach [] X.env := by rfl) :
    PE X (.Call (.Name "sorted" p) [e] [] pos) (tDL X.K xs wx (sortD f)) := by
  refine pe_imp (pe_callB (pos := pos) (p := p) (call_sortedD hc) hg hm bt_sorted (pa_cons he pa_nil hs) (by decide) (by decide) hs rfl) fun sg H Q h => ?_
  obtain ⟨G, io, st, env, ok, er, w⟩ := h
  refine ⟨G, io, st, env, ok, er, w.bind.impR fun st1 io1 H1 u ok1 e1 w1 v rv => ?_⟩
  obtain ⟨us, hu, w2⟩ := w1.pure
  cases hd : dictAt st1 u with
  | none => rw [hd] at hu; cases hu
  | some g =>
    rw [hd] at hu
    have hu : sortDk g = some us := hu
    unfold sortDk at hu
    cases hk : txtKeys g with
    | none => rw [hk] at hu; cases hu
    | some ks =>
      rw [hk] at hu
      simp only [Option.bind_some] at hu
      split at hu
      · rename_i hz
        cases hu
        obtain ⟨a, kvs, rfl, rd, kr⟩ := dictAt_rep ok1 rv hd
        refine ⟨a, kvs, ks, rfl, rd, by rw [← kr.fst]; exact txtKeys_eq hk, hz, fun ys p pm hs hp => ?_⟩
        rw [sort_unique hs pm]
        exact w2.here ok1 _ p (Reps.strs _) hp
      · cases hu
end
@[simp] theorem sortD_ap (f : DE) (env : Env) (st : Store) : sortD f env st = (f env st).bind fun u st1 => Rs.of ((dictAt st1 u).bind sortDk) st1 := (rfl)
@[simp] theorem listK_ap (f : DE) (env : Env) (st : Store) : listK f env st = (f env st).bind fun u st1 => Rs.of ((dictAt st1 u).map fun g => g.map fun p => kU p.1) st1 := (rfl)
section
variable {X : Cx} {xs : XS} {wx : WX} {pos : Pos} {tg : Expr}
def sForX (i : Nat) (t : Tg) (b : DS) : DS := fun env st => match env[i]? with
  | some (.val (.dct ks us)) => match kvsOf ks us with
    | some _ => forL t b ks env st
    | none => .bad
  | _ => .bad
end
@[simp] theorem sForX_ap (i : Nat) (t : Tg) (b : DS) (env : Env) (st : Store) : sForX i t b env st = match env[i]? with
  | some (.val (.dct ks us)) => match kvsOf ks us with
    | some _ => forL t b ks env st
    | none => .bad
  | _ => .bad := (rfl)
section
variable {X : Cx} {xs : XS} {wx : WX} {pos : Pos} {tg : Expr}
theorem pe_or {e : Expr} {t t' : TE} (h : PE X e t) (h' : PE X e t') : PE X e (fun sg H Q => t sg H Q ∨ t' sg H Q) := ⟨fun pins s sg H Q I q => q.elim (h.run pins s sg H Q I) (h'.run pins s sg H Q I)⟩
/-- the turns of a comprehension over what is walked -/
theorem comp_turns {G : Addr → Prop} {io1 : List Addr} {st1 : Store} {env : Env} {us : List U} {vs : List Nat} {t : Tg} {c : DT} {e : DE} {sg : L2.St} {H1 : Hp} {Q : VK} {J : It} (hvs : ∀ u l, t u = some l → ∀ p ∈ l, p.1 ∈ vs) (ok1 : Ok X.K G io1 st1 H1) (er0 : EnvRep X.K G io1 H1 env sg) (hz : us.length ≤ sizeLine)
    (wk : Wk X.K G J io1 H1 us) (w1 : Wants X.K G io1 H1 (fun _ io' H' us => ∀ vs a, Reps X.K (Wf G io') io' H' us vs → H' a = none → Q (.ref a) (upd H' a (.lst vs))) (XW xs wx sg) (noEx (compL t c e us (wipeE env vs) st1))) :
    ∀ D, H1 D = none → ∃ W : Nat → Nat → Hp → Prop, (∃ m, W 0 m (upd H1 D (.lst []))) ∧ ∀ i m H, W i m H →
      (J.stop i H ∧ Q (.ref D) H) ∨ (J.go i H ∧ ∃ Nx : Hp → Prop, (∀ H', Nx H' → ∃ m', m' < m ∧ W (i + 1) m' H') ∧ ∀ x H', J.yld i H x H' → gD X.K t x (L2.wipe sg vs) H' fun σ2 H2 => L2.wipe σ2 vs = L2.wipe sg vs ∧ tDT X.K xs wF c σ2 H2 fun b H3 =>
        if b = true then tD X.K xs wF e σ2 H3 fun y H4 => ∃ acc, H4 D = some (.lst acc) ∧ acc.length < sizeLine ∧ Nx (upd H4 D (.lst (acc ++ [y]))) else Nx H3) := by
  intro D hD
  have nG : ¬ Wf G io1 D := ok1.fresh hD
  have er1 : EnvRep X.K G io1 H1 (wipeE env vs) (L2.wipe sg vs) := er0.wipe vs
  have hH : hid (upd H1 D (.lst [])) D = H1 := by rw [hid_upd, hid_none hD]
  refine ⟨fun i m H' => ∃ io' st' acc accv, Ok X.K G io' st' (hid H' D) ∧ Ext io1 H1 io' (hid H' D) ∧ H' D = some (.lst accv) ∧ Reps X.K (Wf G io') io' (hid H' D) acc accv ∧ acc.length ≤ i ∧ i + m = us.length ∧
      Wants X.K G io' (hid H' D) (fun _ io'' H'' ws => ∀ vs a, Reps X.K (Wf G io'') io'' H'' (acc ++ ws) vs → H'' a = none → Q (.ref a) (upd H'' a (.lst vs))) (XW xs wx sg) (noEx (compL t c e (us.drop i) (wipeE env vs) st')),
    ⟨us.length, io1, st1, [], [], by rw [hH]; exact ok1, by rw [hH]; exact Ext.refl _ _, upd_same, .nil, by simp, by omega, ?_⟩, fun i m H' hW => ?_⟩
  · rw [hH]
    exact w1.impR fun st' io' H' ws _ _ q => q
  obtain ⟨io', st', acc, accv, ok', ex', hD', ra, hai, hm, w'⟩ := hW
  have nio : D ∉ io' := fun z => by
    obtain ⟨o, q, _⟩ := ok'.trk D (.inr z)
    exact (hid_some q).1 rfl
  have okE : Ok X.K (Gd G D) io' st' H' := ok'.enter hD' nx_lst
  have mE : Mono G io1 H1 (Gd G D) io' H' := ex'.mono.trans mono_enter
  have erE : EnvRep X.K (Gd G D) io' H' (wipeE env vs) (L2.wipe sg vs) := (er1.ext ok1.dj ex').enter
  by_cases hi : i < us.length
  · obtain ⟨hgo, hy⟩ := wk.go i _ io' st' H' okE mE hi
    refine .inr ⟨hgo, _, fun H2 hN => ⟨m - 1, by omega, hN⟩, fun x H'' y => ?_⟩
    obtain ⟨sm, u, hu, ru⟩ := hy x H'' y
    have ok2 := okE.same sm
    have ex2 : Ext io' H' io' H'' := Ext.same sm
    have er2 : EnvRep X.K (Gd G D) io' H'' (wipeE env vs) (L2.wipe sg vs) := erE.ext okE.dj ex2
    rw [List.drop_eq_getElem_cons hi] at w'
    have hu' : us[i] = u := Option.some.inj ((List.getElem?_eq_getElem hi).symm.trans hu)
    rw [hu'] at w'
    unfold compL at w'
    cases ht : t u with
    | none => rw [ht] at w'; exact w'.elim
    | some l =>
      rw [ht] at w'
      simp only at w'
      refine ⟨Gd G D, io', u, l, ru, ht, fun lvs rvs => ⟨?_, ?_⟩⟩
      · rw [wipe_setS _ _ _ fun p hp => ?_, wipe_wipe]
        have hp1 : p.1 ∈ l.map (·.1) := (List.of_mem_zip hp).1
        obtain ⟨q, hq, e⟩ := List.mem_map.mp hp1
        rw [← e]
        exact hvs u l ht q hq
      have er3 := EnvRep.setAll l lvs er2 rvs
      have w2 := w'.later (Ext.leave (D := D) ex2)
      rw [noEx_bind] at w2
      have lift : ∀ {A : Type} {R : Store → List Addr → Hp → A → Prop} {XR} {r : Rs A} {io' : List Addr} {H' : Hp}, Wants X.K G io' (hid H' D) R XR (noEx r) → Wants X.K (Gd G D) io' H' (fun st2 io2 H2 a => Ok X.K G io2 st2 (hid H2 D) ∧ Ext io' (hid H' D) io2 (hid H2 D) ∧ R st2 io2 (hid H2 D) a) (XW xs wF (setS (L2.wipe sg vs) ((l.map (·.1)).zip lvs))) r := by
        intro A R XR r io' H' h
        cases r with
        | ok a st2 => exact fun io2 H2 o2 e2 => ⟨o2.leave fun z => nG (.inl z), e2.leave, h io2 _ (o2.leave fun z => nG (.inl z)) e2.leave⟩
        | ex _ _ _ => exact h.elim
        | bad => exact h
      have d2 : H'' D = some (.lst accv) := sm _ _ hD'
      refine ⟨Gd G D, io', st', _, ok2, er3, (lift w2.bind).impR fun st3 io3 H3 b ok3 e3 q => ?_⟩
      have d3 : H3 D = some (.lst accv) := e3.keep D _ nio d2
      have nio3 : D ∉ io3 := fun z => ok3.dj D z (.inr rfl)
      have exA : Ext io1 H1 io3 (hid H3 D) := (ex'.trans (Ext.leave (D := D) ex2)).trans q.2.1
      obtain ⟨q1, q2, q3⟩ := q
      cases b with
      | false => exact ⟨io3, st3, acc, accv, q1, exA, d3, (ra.ext (Ext.leave (D := D) ex2)).ext q2, by omega, by omega, q3⟩
      | true =>
        simp only [if_true] at q3
        rw [noEx_bind] at q3
        refine ⟨Gd G D, io3, st3, _, ok3, er3.ext ok2.dj e3, (lift q3.bind).impR fun st4 io4 H4 v ok4 e4 q4 y ry => ?_⟩
        obtain ⟨p1, p2, p3⟩ := q4
        have d4 : H4 D = some (.lst accv) := e4.keep D _ nio3 d3
        have rA := ((ra.ext (Ext.leave (D := D) ex2)).ext q2).ext p2
        refine ⟨accv, d4, ?_, io4, st4, acc ++ [v], accv ++ [y], ?_, ?_, upd_same, ?_, by simp; omega, by omega, ?_⟩
        · rw [← ra.length]; omega
        · rw [hid_upd]; exact p1
        · rw [hid_upd]; exact exA.trans p2
        · rw [hid_upd]; exact rA.append (.cons (ry.mono mono_leave) .nil)
        · rw [hid_upd]
          rw [noEx_bind] at p3
          refine p3.bind.impR fun st5 io5 H5 ws ok5 e5 q5 => ?_
          have q6 := Wants.here (a := v :: ws) q5 ok5
          intro vs' a' r' n'
          exact q6 vs' a' (by rw [List.append_assoc] at r'; exact r') n'
  · refine .inl ⟨wk.stop i _ io' st' H' okE mE (Nat.le_of_not_lt hi), ?_⟩
    rw [List.drop_eq_nil_of_le (Nat.le_of_not_lt hi)] at w'
    have q := Wants.here (a := ([] : List U)) w' ok' accv D (by rw [List.append_nil]; exact ra) hid_same
    rw [upd_hid hD'] at q
    exact q
/-- [.. for k in d], d a dict held by a name -/
def compK (i : Nat) (vs : List Nat) (t : Tg) (c : DT) (e : DE) : DL := fun env st => match env[i]? with
  | some (.val (.dct ks us)) => match kvsOf ks us with
    | some _ => if ks.length ≤ sizeLine then noEx (compL t c e ks (wipeE env vs) st) else .bad
    | none => .bad
  | _ => .bad
theorem wk_keys {K : PySem.W.Frag} {G : Addr → Prop} {io : List Addr} {H : Hp} {d : Addr} {od : Obj} {kvs : List (Key × V)} {ks : List U} (hk : ks = kvs.map fun p => kU p.1) (hd : H d = some (.frz od (.dK kvs))) (nd : ¬ Wf G io d) : Wk K G (Itk d od kvs) io H ks := by
  have hl : ks.length = kvs.length := by rw [hk, List.length_map]
  refine ⟨fun i G' io' st' H' ok m hi => ?_, fun i G' io' st' H' ok m hi => ⟨(m.keep d _ nd hd).1, by omega⟩⟩
  refine ⟨⟨(m.keep d _ nd hd).1, by omega⟩, fun x H'' y => ?_⟩
  obtain ⟨rfl, k, v, hkv, rfl⟩ := y
  exact ⟨fun _ _ h => h, kU k, by rw [hk, List.getElem?_map, hkv]; rfl, kU_rep k⟩
/-- what lies between a lock and its end, of expressions -/
theorem ext_unlockE {io io' : List Addr} {H1 H2 H3 H4 : Hp} {d : Addr} {o : Obj} {kvs : List (Key × V)} (k1 : Lk d o kvs H1 H2) (h1 : H1 d = some (.dK kvs)) (k2 : Lk d o kvs H3 H4) (h4 : H4 d = some (.dK kvs)) (e : Ext io H2 io' H3) : Ext io H1 io' H4 := by
  obtain ⟨more, q1, q2⟩ := e.pre
  refine ⟨⟨more, q1, fun a ha => ?_⟩, fun a x na hx => ?_, fun a x hx => ?_⟩
  · have z := q2 a ha
    by_cases ed : a = d
    · subst ed
      exfalso
      rcases k1.at_ with ⟨_, q⟩ | ⟨_, q⟩ <;> rw [q] at z <;> cases z
    · rw [← k1.ne a ed]; exact z
  · by_cases ed : a = d
    · subst ed; rw [h1] at hx; cases hx; exact h4
    · rw [k2.ne a ed]
      exact e.keep a x na (by rw [k1.ne a ed]; exact hx)
  · by_cases ed : a = d
    · subst ed; exact ⟨_, h4⟩
    · rw [k2.ne a ed]
      exact e.stay a x (by rw [k1.ne a ed]; exact hx)
theorem l_compK {i : Nat} {x : Str} {p : Pos} {elt : Expr} {ifs : List Expr} {scope : Scope} {own : List (Str × Nat)} {t : Tg} {c : DT} {e : DE} (hc : X.calm = true) (hN : X.N.Nodup) (hi : X.N[i]? = some x) (hv : Vis X.env.scope x) (ok : BlkOk X.N X.env.scope scope own)
    (hvs : ∀ u l, t u = some l → ∀ p ∈ l, p.1 ∈ own.map (·.2))
    (hg : ∀ (s : Shared) (H : Hp) (C : Addr) (cl : List (Str × Addr)) (fp : List Addr), PG (X.blk s H scope (compEnvC scope cl C X.env) fp) tg (gD X.K t)) (ht : ∀ (s : Shared) (H : Hp) (C : Addr) (cl : List (Str × Addr)) (fp : List Addr), PTs (X.blk s H scope (compEnvC scope cl C X.env) fp) ifs (tDT X.K xs wF c))
    (he : ∀ (s : Shared) (H : Hp) (C : Addr) (cl : List (Str × Addr)) (fp : List Addr), PE (X.blk s H scope (compEnvC scope cl C X.env) fp) elt (tD X.K xs wF e)) (hdb : (x == ("__debug__" : Str)) = false := by decide) (hcd : (x == ("__classdict__" : Str)) = false := by decide) (hs : ∀ y, foldedSetIterable (.Name x p) X.env y = Pure.pure y := by intro _; rfl) :
    PE X (.ListComp elt [⟨tg, .Name x p, ifs, 0⟩] scope pos) (tDL X.K xs wx (compK i (own.map (·.2)) t c e)) := by
  have base := pe_lc (pos := pos) hc hN (pi_keys (tg := tg) (pe_var (i := i) (pos := p) hi hv hdb hcd)) ok hg ht he hs
  refine pe_imp (pe_or (pe_lock base) base) fun sg H Q h => ?_
  obtain ⟨G, io, st, env, okk, er, w⟩ := h
  unfold compK at w
  split at w
  · rename_i ks us q
    split at w
    · rename_i g hgk
      split at w
      · rename_i hz
        have hi : i < sg.length := by rw [← er.len]; exact (List.getElem?_eq_some_iff.mp q).1
        obtain ⟨v, e1, r⟩ := er.sl i _ _ q (List.getElem?_eq_getElem hi)
        have es : sg[i]? = some (some v) := (List.getElem?_eq_getElem hi).trans (congrArg some e1)
        obtain ⟨a, vs, rfl, l, rs⟩ := r.dct'
        have nd := l.1
        obtain ⟨kvs, dk, kr⟩ := ld_dk l rs hgk
        have hk : ks = kvs.map fun p => kU p.1 := by
          obtain ⟨_, ⟨k1, h1, e2, _⟩ | ⟨k1, h1, e2, _, hne⟩⟩ := l
          · have : DK H a k1 := .inl h1
            rw [← dk.inj this] at e2; exact e2
          · exfalso
            rcases dk with (dk | ⟨o, dk⟩) | ⟨dk, _⟩ <;> rw [dk] at h1 <;> cases h1
            exact hne rfl
        rcases dk with (dk | ⟨o, dk⟩) | ⟨dk, ek⟩
        · refine .inl ⟨a, .dK kvs, dk, trivial, fun od => ⟨.ref a, es, a, od, rfl, .inl ⟨kvs, upd_same, ?_⟩⟩⟩
          have lk : Lk a od kvs H (upd H a (.frz od (.dK kvs))) := ⟨.inl ⟨dk, upd_same⟩, fun b hb => upd_ne hb⟩
          refine comp_turns (xs := xs) (wx := wF) (c := c) (e := e) (Q := fun v H' => H' a = some (.frz od (.dK kvs)) ∧ Q v (upd H' a (.dK kvs))) hvs (lk.ok nd okk) (lk.env er) hz (wk_keys hk upd_same nd) ?_
          cases hout : compL t c e ks (wipeE env (own.map (·.2))) st with
          | ok ws st' =>
            rw [hout] at w
            intro io' H' ok' e' vs2 p2 r2 n2
            have hl := e'.mono.keep (G := G) a _ nd upd_same
            have unl : Lk a od kvs H' (upd H' a (.dK kvs)) := ⟨.inr ⟨hl.1, upd_same⟩, fun b hb => upd_ne hb⟩
            have hne : p2 ≠ a := fun z => by rw [z, hl.1] at n2; cases n2
            refine ⟨by rw [upd_ne (fun z => hne z.symm)]; exact hl.1, ?_⟩
            have q2 := w io' _ (unl.ok hl.2 ok') (ext_unlockE lk dk unl upd_same e') vs2 p2 (unl.reps _ _ r2) (by rw [upd_ne hne]; exact n2)
            have cm : upd (upd H' p2 (.lst vs2)) a (.dK kvs) = upd (upd H' a (.dK kvs)) p2 (.lst vs2) := by
              funext b
              unfold upd
              by_cases b1 : b = a
              · rw [if_pos b1, if_neg (fun z => hne (z.symm.trans b1)), if_pos b1]
              · rw [if_neg b1]
                by_cases b2 : b = p2
                · rw [if_pos b2, if_pos b2]
                · rw [if_neg b2, if_neg b2, if_neg b1]
            rw [cm]
            exact q2
          | ex c2 us2 st2 => rw [hout] at w; exact w.elim
          | bad => rw [hout] at w; exact w.elim
        · exact .inr ⟨.ref a, es, a, o, rfl, .inl ⟨kvs, dk, comp_turns (xs := xs) (wx := wx) (c := c) (e := e) (Q := Q) hvs okk er hz (wk_keys hk dk nd) w⟩⟩
        · exfalso
          obtain ⟨_, ⟨k1, h1, e2, _⟩ | ⟨k1, h1, e2, _, hne⟩⟩ := l
          · rcases h1 with h1 | ⟨o, h1⟩ <;> rw [dk] at h1 <;> cases h1
          · rw [dk] at h1; cases h1; exact hne rfl
      · exact w.elim
    · exact w.elim
  · exact w.elim
end
@[simp] theorem compK_ap (i : Nat) (vs : List Nat) (t : Tg) (c : DT) (e : DE) (env : Env) (st : Store) : compK i vs t c e env st = match env[i]? with
  | some (.val (.dct ks us)) => match kvsOf ks us with
    | some _ => if ks.length ≤ sizeLine then noEx (compL t c e ks (wipeE env vs) st) else .bad
    | none => .bad
  | _ => .bad := (rfl)
end D
namespace D
open PySem L2
section
variable (i j : Int) (x y : Str) (us ws : List U) (ns : List Int) (b : Bool)
@[simp] theorem len_str : lenN [.str x] = if x.length ≤ 16777216 then some (.int x.length) else none := by rw [← sizeLine_val]; rfl
@[simp] theorem add_strs : add2 (.str x) (.str y) = if x.length + y.length ≤ 16777216 then some (.str (x ++ y)) else none := by rw [← sizeLine_val]; rfl
@[simp] theorem add_tups : add2 (.tup us) (.tup ws) = if us.length + ws.length ≤ 16777216 then some (.tup (us ++ ws)) else none := by rw [← sizeLine_val]; rfl
@[simp] theorem add_lsts : add2 (.lst us) (.lst ws) = if us.length + ws.length ≤ 16777216 then some (.lst (us ++ ws)) else none := by rw [← sizeLine_val]; rfl
@[simp] theorem mul_int : mul2 (.int i) (.int j) = if smallI i || smallI j then some (.int (i * j)) else none := (rfl)
@[simp] theorem mod_int : mod2 (.int i) (.int j) = if 0 < j then some (.int (i % j)) else none := (rfl)
@[simp] theorem fdiv_int : fdiv2 (.int i) (.int j) = if 0 < j ∧ j < 1073741824 then some (.int (i / j)) else none := (rfl)
@[simp] theorem gt_str : gt2 (.str x) (.str y) = some (.bl (ltC y x)) := (rfl)
@[simp] theorem ge_str : ge2 (.str x) (.str y) = some (.bl (!ltC x y)) := (rfl)
@[simp] theorem szT_ap : szT us = if us.length ≤ 16777216 then some (.tup us) else none := by rw [← sizeLine_val]; rfl
@[simp] theorem szL_ap : szL us = if us.length ≤ 16777216 then some (.lst us) else none := by rw [← sizeLine_val]; rfl
@[simp] theorem items_scr : items (.scr ns) = some (ns.map U.int) := (rfl)
@[simp] theorem items_str : items (.str x) = some (x.cps.toList.map fun c => U.str ⟨#[c]⟩) := (rfl)
@[simp] theorem lstL_lst : lstL [.lst us] = some us := (rfl)
@[simp] theorem lstL_tup : lstL [.tup us] = some us := (rfl)
@[simp] theorem lstL_scr : lstL [.scr ns] = some (ns.map U.int) := (rfl)
@[simp] theorem tupN_lst : tupN [.lst us] = some (.tup us) := (rfl)
@[simp] theorem tupN_tup : tupN [.tup us] = some (.tup us) := (rfl)
@[simp] theorem intN_int : intN [.int i] = some (.int i) := (rfl)
@[simp] theorem intN_bl : intN [.bl b] = some (.int (if b then 1 else 0)) := (rfl)
@[simp] theorem rev_lst : rev1 (.lst us) = some us.reverse := (rfl)
@[simp] theorem rev_tup : rev1 (.tup us) = some us.reverse := (rfl)
@[simp] theorem back_lst : back1 (.lst us) = some (.lst us.reverse) := (rfl)
@[simp] theorem back_tup : back1 (.tup us) = some (.tup us.reverse) := (rfl)
@[simp] theorem sl_lst (lo hi : Option Int) : sl3 (.lst us) lo hi = some (.lst (cutL us lo hi)) := (rfl)
@[simp] theorem sl_tup (lo hi : Option Int) : sl3 (.tup us) lo hi = some (.tup (cutL us lo hi)) := (rfl)
@[simp] theorem sl_scr (lo hi : Option Int) : sl3 (.scr ns) lo hi = some (.lst ((cutL ns lo hi).map U.int)) := (rfl)
@[simp] theorem sl_str (lo hi : Option Int) : sl3 (.str x) lo hi = if x.length ≤ 16777216 then some (.str (cutS x lo hi)) else none := by rw [← sizeLine_val]; rfl
@[simp] theorem ix_lst' : ix2 (.lst us) (.int i) = atI us i := (rfl)
@[simp] theorem ix_tup' : ix2 (.tup us) (.int i) = atI us i := (rfl)
@[simp] theorem ix_scr' : ix2 (.scr ns) (.int i) = (atI ns i).map U.int := (rfl)
end
theorem atI_cast {A : Type} (l : List A) (n : Nat) : atI l (n : Int) = l[n]? := by
  cases h : l[n]? with
  | some x => exact atI_nat h
  | none =>
    have hl : l.length ≤ n := List.getElem?_eq_none_iff.mp h
    unfold atI ixN
    rw [if_pos (by omega), if_neg (by omega)]
    rfl
@[simp] theorem atI_nat' {A : Type} (l : List A) (n : Nat) : atI l (n : Int) = l[n]? := atI_cast l n
theorem atI_neg {A : Type} (l : List A) (k : Nat) (h : k + 1 ≤ l.length) : atI l (-((k : Int) + 1)) = l[l.length - (k + 1)]? := by
  unfold atI ixN
  rw [if_neg (by omega), if_pos (by omega)]
  show l[_]? = _
  congr 1
  omega
@[simp] theorem atI_neg1 {A : Type} (l : List A) : atI l (-1) = l.getLast? := by
  cases l with
  | nil => rfl
  | cons a l =>
    have := atI_neg (a :: l) 0 (by simp)
    rw [show (-1 : Int) = -(((0 : Nat) : Int) + 1) from rfl, this, List.getLast?_eq_getElem?]
@[simp] theorem cutL_all {A : Type} (l : List A) : cutL l none none = l := by
  unfold cutL
  rw [HT.sIx_none, HT.sIx_none, List.drop_zero, Nat.sub_zero, List.take_length]
theorem cutL_to {A : Type} (l : List A) (n : Nat) : cutL l none (some (n : Int)) = l.take n := by
  unfold cutL
  rw [HT.sIx_none, HT.sIx_nat, List.drop_zero, Nat.sub_zero, List.take_eq_take_iff]
  omega
theorem cutL_from {A : Type} (l : List A) (n : Nat) : cutL l (some (n : Int)) none = l.drop n := by
  unfold cutL
  rw [HT.sIx_none, HT.sIx_nat]
  by_cases h : n ≤ l.length
  · rw [Nat.min_eq_left h, List.take_of_length_le (by simp)]
  · rw [Nat.min_eq_right (by omega), Nat.sub_self, List.take_zero, List.drop_eq_nil_of_le (by omega)]
theorem cutL_mid {A : Type} (l : List A) (m n : Nat) : cutL l (some (m : Int)) (some (n : Int)) = (l.drop m).take (n - m) := by
  unfold cutL
  rw [HT.sIx_nat, HT.sIx_nat]
  by_cases h : m ≤ l.length
  · rw [Nat.min_eq_left h, List.take_eq_take_iff, List.length_drop]
    omega
  · rw [Nat.min_eq_right (a := m) (by omega), List.drop_length, List.take_nil, List.drop_eq_nil_of_le (by omega), List.take_nil]
@[simp] theorem atI_lit {A : Type} (l : List A) (n : Nat) : atI l (no_index (@OfNat.ofNat Int n instOfNat)) = l[@OfNat.ofNat Nat n (instOfNatNat n)]? := atI_cast l n
@[simp] theorem cutL_toL {A : Type} (l : List A) (n : Nat) : cutL l none (some (no_index (@OfNat.ofNat Int n instOfNat))) = l.take (@OfNat.ofNat Nat n (instOfNatNat n)) := cutL_to l n
@[simp] theorem cutL_fromL {A : Type} (l : List A) (n : Nat) : cutL l (some (no_index (@OfNat.ofNat Int n instOfNat))) none = l.drop (@OfNat.ofNat Nat n (instOfNatNat n)) := cutL_from l n
@[simp] theorem cutL_midL {A : Type} (l : List A) (m n : Nat) : cutL l (some (no_index (@OfNat.ofNat Int m instOfNat))) (some (no_index (@OfNat.ofNat Int n instOfNat))) = (l.drop (@OfNat.ofNat Nat m (instOfNatNat m))).take (@OfNat.ofNat Nat n (instOfNatNat n) - @OfNat.ofNat Nat m (instOfNatNat m)) := cutL_mid l m n
@[simp] theorem cutL_toN {A : Type} (l : List A) : cutL l none (some (-1)) = l.dropLast := by
  have e : HT.sIx l.length l.length (some (-1)) = l.length - 1 := by
    show (if (-1 : Int) < 0 then ((-1 : Int) + (l.length : Int)).toNat else min (-1 : Int).toNat l.length) = _
    rw [if_pos (by decide)]; omega
  unfold cutL
  rw [HT.sIx_none, e, List.drop_zero, Nat.sub_zero, List.dropLast_eq_take]
@[simp] theorem cutL_fromN {A : Type} (l : List A) : cutL l (some (-1)) none = l.drop (l.length - 1) := by
  have e : HT.sIx l.length 0 (some (-1)) = l.length - 1 := by
    show (if (-1 : Int) < 0 then ((-1 : Int) + (l.length : Int)).toNat else min (-1 : Int).toNat l.length) = _
    rw [if_pos (by decide)]; omega
  unfold cutL
  rw [HT.sIx_none, e, List.take_of_length_le (by simp)]
@[simp] theorem cutL_to' {A : Type} (l : List A) (n : Nat) : cutL l none (some (n : Int)) = l.take n := cutL_to l n
@[simp] theorem cutL_from' {A : Type} (l : List A) (n : Nat) : cutL l (some (n : Int)) none = l.drop n := cutL_from l n
@[simp] theorem cutL_mid' {A : Type} (l : List A) (m n : Nat) : cutL l (some (m : Int)) (some (n : Int)) = (l.drop m).take (n - m) := cutL_mid l m n
@[simp] theorem isi_non_str  : isiN [.non, .ty "str"] = some (.bl false) := (rfl)
@[simp] theorem isi_non_int  : isiN [.non, .ty "int"] = some (.bl false) := (rfl)
@[simp] theorem isi_non_bool  : isiN [.non, .ty "bool"] = some (.bl false) := (rfl)
@[simp] theorem isi_non_tuple  : isiN [.non, .ty "tuple"] = some (.bl false) := (rfl)
@[simp] theorem isi_non_list  : isiN [.non, .ty "list"] = some (.bl false) := (rfl)
@[simp] theorem isi_non_dict  : isiN [.non, .ty "dict"] = some (.bl false) := (rfl)
@[simp] theorem isi_bl_str (b : Bool) : isiN [(.bl b), .ty "str"] = some (.bl false) := (rfl)
@[simp] theorem isi_bl_int (b : Bool) : isiN [(.bl b), .ty "int"] = some (.bl true) := (rfl)
@[simp] theorem isi_bl_bool (b : Bool) : isiN [(.bl b), .ty "bool"] = some (.bl true) := (rfl)
@[simp] theorem isi_bl_tuple (b : Bool) : isiN [(.bl b), .ty "tuple"] = some (.bl false) := (rfl)
@[simp] theorem isi_bl_list (b : Bool) : isiN [(.bl b), .ty "list"] = some (.bl false) := (rfl)
@[simp] theorem isi_bl_dict (b : Bool) : isiN [(.bl b), .ty "dict"] = some (.bl false) := (rfl)
@[simp] theorem isi_int_str (i : Int) : isiN [(.int i), .ty "str"] = some (.bl false) := (rfl)
@[simp] theorem isi_int_int (i : Int) : isiN [(.int i), .ty "int"] = some (.bl true) := (rfl)
@[simp] theorem isi_int_bool (i : Int) : isiN [(.int i), .ty "bool"] = some (.bl false) := (rfl)
@[simp] theorem isi_int_tuple (i : Int) : isiN [(.int i), .ty "tuple"] = some (.bl false) := (rfl)
@[simp] theorem isi_int_list (i : Int) : isiN [(.int i), .ty "list"] = some (.bl false) := (rfl)
@[simp] theorem isi_int_dict (i : Int) : isiN [(.int i), .ty "dict"] = some (.bl false) := (rfl)
@[simp] theorem isi_str_str (x : Str) : isiN [(.str x), .ty "str"] = some (.bl true) := (rfl)
@[simp] theorem isi_str_int (x : Str) : isiN [(.str x), .ty "int"] = some (.bl false) := (rfl)
@[simp] theorem isi_str_bool (x : Str) : isiN [(.str x), .ty "bool"] = some (.bl false) := (rfl)
@[simp] theorem isi_str_tuple (x : Str) : isiN [(.str x), .ty "tuple"] = some (.bl false) := (rfl)
@[simp] theorem isi_str_list (x : Str) : isiN [(.str x), .ty "list"] = some (.bl false) := (rfl)
@[simp] theorem isi_str_dict (x : Str) : isiN [(.str x), .ty "dict"] = some (.bl false) := (rfl)
@[simp] theorem isi_tup_str (us : List U) : isiN [(.tup us), .ty "str"] = some (.bl false) := (rfl)
@[simp] theorem isi_tup_int (us : List U) : isiN [(.tup us), .ty "int"] = some (.bl false) := (rfl)
@[simp] theorem isi_tup_bool (us : List U) : isiN [(.tup us), .ty "bool"] = some (.bl false) := (rfl)
@[simp] theorem isi_tup_tuple (us : List U) : isiN [(.tup us), .ty "tuple"] = some (.bl true) := (rfl)
@[simp] theorem isi_tup_list (us : List U) : isiN [(.tup us), .ty "list"] = some (.bl false) := (rfl)
@[simp] theorem isi_tup_dict (us : List U) : isiN [(.tup us), .ty "dict"] = some (.bl false) := (rfl)
@[simp] theorem isi_lst_str (us : List U) : isiN [(.lst us), .ty "str"] = some (.bl false) := (rfl)
@[simp] theorem isi_lst_int (us : List U) : isiN [(.lst us), .ty "int"] = some (.bl false) := (rfl)
@[simp] theorem isi_lst_bool (us : List U) : isiN [(.lst us), .ty "bool"] = some (.bl false) := (rfl)
@[simp] theorem isi_lst_tuple (us : List U) : isiN [(.lst us), .ty "tuple"] = some (.bl false) := (rfl)
@[simp] theorem isi_lst_list (us : List U) : isiN [(.lst us), .ty "list"] = some (.bl true) := (rfl)
@[simp] theorem isi_lst_dict (us : List U) : isiN [(.lst us), .ty "dict"] = some (.bl false) := (rfl)
@[simp] theorem isi_dct_str (ks us : List U) : isiN [(.dct ks us), .ty "str"] = some (.bl false) := (rfl)
@[simp] theorem isi_dct_int (ks us : List U) : isiN [(.dct ks us), .ty "int"] = some (.bl false) := (rfl)
@[simp] theorem isi_dct_bool (ks us : List U) : isiN [(.dct ks us), .ty "bool"] = some (.bl false) := (rfl)
@[simp] theorem isi_dct_tuple (ks us : List U) : isiN [(.dct ks us), .ty "tuple"] = some (.bl false) := (rfl)
@[simp] theorem isi_dct_list (ks us : List U) : isiN [(.dct ks us), .ty "list"] = some (.bl false) := (rfl)
@[simp] theorem isi_dct_dict (ks us : List U) : isiN [(.dct ks us), .ty "dict"] = some (.bl true) := (rfl)
@[simp] theorem isi_scr_str (ns : List Int) : isiN [(.scr ns), .ty "str"] = some (.bl false) := (rfl)
@[simp] theorem isi_scr_int (ns : List Int) : isiN [(.scr ns), .ty "int"] = some (.bl false) := (rfl)
@[simp] theorem isi_scr_bool (ns : List Int) : isiN [(.scr ns), .ty "bool"] = some (.bl false) := (rfl)
@[simp] theorem isi_scr_tuple (ns : List Int) : isiN [(.scr ns), .ty "tuple"] = some (.bl false) := (rfl)
@[simp] theorem isi_scr_list (ns : List Int) : isiN [(.scr ns), .ty "list"] = some (.bl true) := (rfl)
@[simp] theorem isi_scr_dict (ns : List Int) : isiN [(.scr ns), .ty "dict"] = some (.bl false) := (rfl)
@[simp] theorem is_non_non  : is2 .non .non = some (.bl true) := (rfl)
@[simp] theorem isnot_non_non  : isnot2 .non .non = some (.bl false) := (rfl)
@[simp] theorem is_bl_non (b : Bool) : is2 (.bl b) .non = some (.bl false) := (rfl)
@[simp] theorem isnot_bl_non (b : Bool) : isnot2 (.bl b) .non = some (.bl true) := (rfl)
@[simp] theorem is_int_non (i : Int) : is2 (.int i) .non = some (.bl false) := (rfl)
@[simp] theorem isnot_int_non (i : Int) : isnot2 (.int i) .non = some (.bl true) := (rfl)
@[simp] theorem is_str_non (x : Str) : is2 (.str x) .non = some (.bl false) := (rfl)
@[simp] theorem isnot_str_non (x : Str) : isnot2 (.str x) .non = some (.bl true) := (rfl)
@[simp] theorem is_tup_non (us : List U) : is2 (.tup us) .non = some (.bl false) := (rfl)
@[simp] theorem isnot_tup_non (us : List U) : isnot2 (.tup us) .non = some (.bl true) := (rfl)
@[simp] theorem is_lst_non (us : List U) : is2 (.lst us) .non = some (.bl false) := (rfl)
@[simp] theorem isnot_lst_non (us : List U) : isnot2 (.lst us) .non = some (.bl true) := (rfl)
@[simp] theorem is_dct_non (ks us : List U) : is2 (.dct ks us) .non = some (.bl false) := (rfl)
@[simp] theorem isnot_dct_non (ks us : List U) : isnot2 (.dct ks us) .non = some (.bl true) := (rfl)
@[simp] theorem is_scr_non (ns : List Int) : is2 (.scr ns) .non = none := (rfl)
@[simp] theorem isnot_scr_non (ns : List Int) : isnot2 (.scr ns) .non = none := (rfl)
@[simp] theorem is_bl_bl (a b : Bool) : is2 (.bl a) (.bl b) = some (.bl (decide (a = b))) := (rfl)
@[simp] theorem isnot_bl_bl (a b : Bool) : isnot2 (.bl a) (.bl b) = some (.bl (!decide (a = b))) := (rfl)
end D
namespace C
open PySem L2 D
abbrev tS (ws : List Str) : U := .tup (ws.map U.str)
abbrev lS (ws : List Str) : U := .lst (ws.map U.str)
@[simp] theorem ofS_inj (a b : String) : (Str.ofString a = Str.ofString b) ↔ a = b := by
  refine ⟨fun h => ?_, fun h => by rw [h]⟩
  have h1 : cpsOfBytes 0 0 a.toByteArray.data.toList = cpsOfBytes 0 0 b.toByteArray.data.toList := by
    have := congrArg (fun x : Str => x.cps.toList) h
    simpa [Str.ofString] using this
  rw [cpsOfBytes_string, cpsOfBytes_string] at h1
  have h2 : a.toList = b.toList := by
    have inj : ∀ l m : List Char, l.map Char.toNat = m.map Char.toNat → l = m := by
      intro l
      induction l with
      | nil => intro m h; cases m with
        | nil => rfl
        | cons _ _ => cases h
      | cons c l ih => intro m h; cases m with
        | nil => cases h
        | cons d m =>
          simp only [List.map_cons, List.cons.injEq] at h
          rw [ih m h.2, Char.ext (UInt32.toNat_inj.mp h.1)]
    exact inj _ _ h1
  rw [← String.ofList_toList (s := a), h2, String.ofList_toList]
theorem eqU_str1 (x y : Str) : eqU (.str y) (.str x) = decide (y = x) := eqU_str y x
theorem any_txt (x : Str) : ∀ ws : List Str, ((ws.map U.str).any fun y => eqU y (.str x)) = decide (x ∈ ws)
  | [] => rfl
  | w :: ws => by
    rw [List.map_cons, List.any_cons, any_txt x ws, eqU_str1]
    rw [Bool.eq_iff_iff, Bool.or_eq_true, decide_eq_true_eq, decide_eq_true_eq, decide_eq_true_eq, List.mem_cons]
    exact or_congr eq_comm Iff.rfl
theorem flat_txt : ∀ ws : List Str, (ws.map U.str).all flatU = true
  | [] => rfl
  | w :: ws => by rw [List.map_cons, List.all_cons, flat_txt ws]; rfl
@[simp] theorem in_txt (x : Str) (ws : List Str) : in2 (.str x) (tS ws) = some (.bl (decide (x ∈ ws))) := by
  show (if flatU (.str x) && (ws.map U.str).all flatU then some (U.bl ((ws.map U.str).any fun y => eqU y (.str x))) else none) = _
  rw [flat_txt, any_txt]; rfl
@[simp] theorem nin_txt (x : Str) (ws : List Str) : nin2 (.str x) (tS ws) = some (.bl (!decide (x ∈ ws))) := by
  show (if flatU (.str x) && (ws.map U.str).all flatU then some (U.bl (!(ws.map U.str).any fun y => eqU y (.str x))) else none) = _
  rw [flat_txt, any_txt]; rfl
theorem eqF_str (n : Nat) (a b : Str) : eqF (n + 1) (.str a) (.str b) = some (decide (a = b)) := by
  show some (a == b) = _
  by_cases q : a = b <;> simp [q]
theorem eqF_int (n : Nat) (a b : Int) : eqF (n + 1) (.int a) (.int b) = some (decide (a = b)) := by
  show some (a == b) = _
  by_cases q : a = b <;> simp [q]
@[simp] theorem eq_str (a b : Str) : eq2 (.str a) (.str b) = some (.bl (decide (a = b))) := by unfold eq2; rw [eqF_str 59]; rfl
@[simp] theorem ne_str (a b : Str) : ne2 (.str a) (.str b) = some (.bl (!decide (a = b))) := by unfold ne2; rw [eqF_str 59]; rfl
@[simp] theorem eq_int (a b : Int) : eq2 (.int a) (.int b) = some (.bl (decide (a = b))) := by unfold eq2; rw [eqF_int 59]; rfl
@[simp] theorem ne_int (a b : Int) : ne2 (.int a) (.int b) = some (.bl (!decide (a = b))) := by unfold ne2; rw [eqF_int 59]; rfl
@[simp] theorem eq_bl (a b : Bool) : eq2 (.bl a) (.bl b) = some (.bl (decide (a = b))) := by cases a <;> cases b <;> rfl
@[simp] theorem ne_bl (a b : Bool) : ne2 (.bl a) (.bl b) = some (.bl (!decide (a = b))) := by cases a <;> cases b <;> rfl
theorem eqZ_nil (f : U → U → Option Bool) (us : List U) : eqZ f us [] = some true := by cases us <;> rfl
@[simp] theorem eq_nilT (us : List U) : eq2 (.tup us) (.tup []) = some (.bl us.isEmpty) := by
  unfold eq2 eqF
  rw [eqZ_nil]
  cases us <;> rfl
@[simp] theorem ne_nilT (us : List U) : ne2 (.tup us) (.tup []) = some (.bl (!us.isEmpty)) := by
  unfold ne2 eqF
  rw [eqZ_nil]
  cases us <;> rfl
@[simp] theorem eq_nilL (us : List U) : eq2 (.lst us) (.lst []) = some (.bl us.isEmpty) := by
  cases us <;> rfl
@[simp] theorem ne_nilL (us : List U) : ne2 (.lst us) (.lst []) = some (.bl (!us.isEmpty)) := by
  cases us <;> rfl
def bothS (a b : List Str) : List Str := a.filter fun x => decide (x ∈ b)
def joinS (a b : List Str) : List Str := sortS (dedS (a ++ b))
end C
namespace C
open PySem L2 D
end C
namespace C
open PySem L2 D
def numbU : U → Bool
  | .int i => decide (-1000000000000000000 ≤ i ∧ i ≤ 1000000000000000000)
  | _ => false
def overU : U → Bool
  | .int i => decide (0 < i)
  | _ => false
def argsU : U → Bool
  | .tup us => decide (us.length ≤ 4) && us.all wordU
  | _ => false
abbrev wWord : Str := Str.ofString "word"
abbrev wNumber : Str := Str.ofString "number"
abbrev wArgs : Str := Str.ofString "args"
abbrev wLeaves : Str := Str.ofString "leaves"
def partU (s : Str) (u : U) : Bool := if s = wWord then wordU u else if s = wNumber then numbU u else if s = wArgs then argsU u else if s = wLeaves then areL u else overU u
def tabS : List (Str × List Str) := [(Str.ofString "set", [wWord, wNumber]), (Str.ofString "same", [wWord, wWord]), (Str.ofString "sum", [wWord, wWord, wWord]), (Str.ofString "less", [wWord, wWord, wWord]), (Str.ofString "hold", [wWord, wWord, wArgs]), (Str.ofString "call", [wWord, wWord, wArgs, wLeaves]),
  (Str.ofString "last", [wWord, wArgs, wLeaves]), (Str.ofString "give", [wWord]), (Str.ofString "keep", [wWord, wWord]), (Str.ofString "kept", [wWord, wWord]), (Str.ofString "skip", [wWord, Str.ofString "over"]), (Str.ofString "over", [Str.ofString "over"]), (Str.ofString "on", []), (Str.ofString "count", []),
  (Str.ofString "ask", [wWord, Str.ofString "over"]), (Str.ofString "deed", [wWord, wWord]), (Str.ofString "done", [wWord, wWord])]
def lookS (w : Str) : Option (List Str) := (tabS.find? fun p => decide (p.1 = w)).map (·.2)
def rowU : U → Bool
  | .tup (.str w :: ps) => match lookS w with
    | some ss => decide (ps.length = ss.length) && (List.zipWith partU ss ps).all id
    | none => false
  | _ => false
end C
namespace C
open PySem L2 D
theorem pick {A : Type} (l : List A) (i : Int) (h0 : 0 ≤ i) (h1 : i < l.length) : ∃ x ∈ l, atI l i = some x := by
  obtain ⟨n, rfl⟩ := Int.eq_ofNat_of_zero_le h0
  have hn : n < l.length := by omega
  exact ⟨l[n], List.getElem_mem hn, by rw [atI_cast]; exact List.getElem?_eq_getElem hn⟩
end C
namespace C
open PySem L2 D
inductive Row where
  | set (x : Str) (n : Int) | same (x a : Str) | sum (x a b : Str) | less (x a b : Str) | hold (x n : Str) (as : List Str) | call (x f : Str) (as vs : List Str) | last (f : Str) (as vs : List Str) | give (a : Str)
  | keep (c a : Str) | kept (x c : Str) | skip (a : Str) (k : Int) | over (k : Int) | on | count | ask (w : Str) (k : Int) | deed (w a : Str) | done (w a : Str)
  deriving DecidableEq
def Row.u : Row → U
  | .set x n => .tup [.str (Str.ofString "set"), .str x, .int n]
  | .same x a => .tup [.str (Str.ofString "same"), .str x, .str a]
  | .sum x a b => .tup [.str (Str.ofString "sum"), .str x, .str a, .str b]
  | .less x a b => .tup [.str (Str.ofString "less"), .str x, .str a, .str b]
  | .hold x n as => .tup [.str (Str.ofString "hold"), .str x, .str n, tS as]
  | .call x f as vs => .tup [.str (Str.ofString "call"), .str x, .str f, tS as, tS vs]
  | .last f as vs => .tup [.str (Str.ofString "last"), .str f, tS as, tS vs]
  | .give a => .tup [.str (Str.ofString "give"), .str a]
  | .keep c a => .tup [.str (Str.ofString "keep"), .str c, .str a]
  | .kept x c => .tup [.str (Str.ofString "kept"), .str x, .str c]
  | .skip a k => .tup [.str (Str.ofString "skip"), .str a, .int k]
  | .over k => .tup [.str (Str.ofString "over"), .int k]
  | .on => .tup [.str (Str.ofString "on")]
  | .count => .tup [.str (Str.ofString "count")]
  | .ask w k => .tup [.str (Str.ofString "ask"), .str w, .int k]
  | .deed w a => .tup [.str (Str.ofString "deed"), .str w, .str a]
  | .done w a => .tup [.str (Str.ofString "done"), .str w, .str a]
def okN (n : Int) : Bool := decide (-1000000000000000000 ≤ n ∧ n ≤ 1000000000000000000)
def argsS (as : List Str) : Bool := decide (as.length ≤ 4) && as.all isWordS
def leavesS (ws : List Str) : Bool := areL (tS ws)
def Row.ok : Row → Bool
  | .set x n => isWordS x && okN n
  | .same x a => isWordS x && isWordS a
  | .sum x a b => isWordS x && isWordS a && isWordS b
  | .less x a b => isWordS x && isWordS a && isWordS b
  | .hold x n as => isWordS x && isWordS n && argsS as
  | .call x f as vs => isWordS x && isWordS f && argsS as && leavesS vs
  | .last f as vs => isWordS f && argsS as && leavesS vs
  | .give a => isWordS a
  | .keep c a => isWordS c && isWordS a
  | .kept x c => isWordS x && isWordS c
  | .skip a k => isWordS a && decide (0 < k)
  | .over k => decide (0 < k)
  | .on => true
  | .count => true
  | .ask w k => isWordS w && decide (0 < k)
  | .deed w a => isWordS w && isWordS a
  | .done w a => isWordS w && isWordS a
def Row.goes : Row → Int
  | .skip _ k => k
  | .over k => k
  | .ask _ k => k
  | _ => 0
def Row.leaves : Row → List Str
  | .call _ _ _ vs => vs
  | .last _ _ vs => vs
  | .ask w _ => [w]
  | .deed w _ => [w]
  | .done w _ => [w]
  | _ => []
end C
namespace C
open PySem L2 D
/-- what a row goes over; of what is none, nothing -/
noncomputable def goesU (u : U) : Int := open Classical in if h : ∃ r : Row, u = r.u then (Classical.choose h).goes else 0
/-- whether a row can stand at a place -/
noncomputable def stands (us : List U) (k : Nat) : Bool := rowU (us.getD k .non) && decide ((k : Int) + 1 + goesU (us.getD k .non) ≤ us.length)
noncomputable def badAt (us : List U) : Option Nat := (List.range us.length).find? fun k => !stands us k
def nodupU : U → Bool
  | .tup us => match strsU us with
    | some ws => decide ((dedS ws).length = ws.length)
    | none => false
  | _ => false
def rowsU : U → Bool
  | .tup us => decide (1 ≤ us.length ∧ us.length ≤ 60)
  | _ => false
def headU : U → Bool
  | .tup [n, o, p, r] => wordU n && areL o && argsU p && nodupU p && rowsU r
  | _ => false
structure Piece where
  name : Str
  own : List Str
  params : List Str
  rows : List Row
def Piece.u (p : Piece) : U := .tup [.str p.name, tS p.own, tS p.params, .tup (p.rows.map Row.u)]
def bookU (b : List Piece) : U := .lst (b.map Piece.u)
end C
namespace C
open PySem L2 D
def Stop : Out → Prop
  | .rt _ _ => True
  | .ex _ _ _ _ => True
  | .bad => True
  | _ => False
theorem Stop.seq {o : Out} (h : Stop o) (k : D.Env → Store → Out) : o.seq k = o := by
  cases o <;> first | rfl | exact h.elim
def nameU : U → Str
  | .tup (.str n :: _) => n
  | _ => Str.empty
def fresh (us : List U) (k : Nat) : Bool := !decide (nameU (us.getD k .non) ∈ (us.take k).map nameU)
/-- a book, typed -/
noncomputable def Piece.ok (p : Piece) : Bool := headU p.u && (badAt (p.rows.map Row.u)).isNone
end C
namespace C
open PySem L2 D
theorem eqZ_refl {f : U → U → Option Bool} : ∀ us : List U, (∀ u ∈ us, f u u = some true) → eqZ f us us = some true
  | [], _ => rfl
  | u :: us, h => by
    unfold eqZ
    rw [h u (List.mem_cons_self ..), eqZ_refl us fun v hv => h v (List.mem_cons_of_mem _ hv)]
    rfl
end C
namespace C
open PySem L2 D
abbrev wFun : Str := Str.ofString "fun"
def valU : Nat → U → Bool
  | 0, u => numbU u
  | n + 1, u => numbU u || match u with
    | .tup [.str f, nm, .tup ps] => decide (f = wFun) && wordU nm && decide (ps.length ≤ 4) && ps.all (valU n)
    | _ => false
def deepU : Nat → U → Int
  | n + 1, .tup [_, _, .tup ps] => 1 + maxI 0 (ps.map (deepU n))
  | _, _ => 0
end C
namespace D
open PySem
def nmL : List Str := [Str.ofString "Frame", Str.ofString "Hand", Str.ofString "Melt", Str.ofString "Walk", Str.ofString "Run", Str.ofString "pieces", Str.ofString "base", Str.ofString "left", Str.ofString "shelf", Str.ofString "told_events", Str.ofString "ended", Str.ofString "frames", Str.ofString "deepest", Str.ofString "papers", Str.ofString "needs_now", Str.ofString "stops_now", Str.ofString "piece", Str.ofString "locals_now", Str.ofString "at", Str.ofString "waits", Str.ofString "vouch", Str.ofString "set_now", Str.ofString "top", Str.ofString "enter", Str.ofString "place", Str.ofString "stop", Str.ofString "go_on", Str.ofString "done", Str.ofString "asked", Str.ofString "ends_with", Str.ofString "use_call", Str.ofString "why_not", Str.ofString "call", Str.ofString "ask", Str.ofString "row_done", Str.ofString "go", Str.ofString "give", Str.ofString "value", Str.ofString "paper_of", Str.ofString "set", Str.ofString "same", Str.ofString "sum", Str.ofString "less", Str.ofString "hold", Str.ofString "last", Str.ofString "keep", Str.ofString "kept", Str.ofString "skip", Str.ofString "over", Str.ofString "on", Str.ofString "count", Str.ofString "deed", Str.ofString "gives", Str.ofString "spent", Str.ofString "stuck", Str.ofString "refused", Str.ofString "number", Str.ofString "nobody", Str.ofString "many", Str.ofString "function", Str.ofString "great", Str.ofString "deep", Str.ofString "held", Str.ofString "lacks", Str.ofString "fun", Str.ofString "me", Str.ofString "other", Str.ofString "x", Str.ofString "f", Str.ofString "yy", Str.ofString "a", Str.ofString "abcdefgh", Str.ofString "c", Str.ofString "kk", Str.ofString "none", Str.ofString "w"]
theorem nmN : nmL.Nodup := by decide +kernel
class Lx (a : String) (i : outParam Nat) : Prop where
  h : nmL[i]? = some (Str.ofString a)
instance : Lx "Frame" 0 := ⟨rfl⟩
instance : Lx "Hand" 1 := ⟨rfl⟩
instance : Lx "Melt" 2 := ⟨rfl⟩
instance : Lx "Walk" 3 := ⟨rfl⟩
instance : Lx "Run" 4 := ⟨rfl⟩
instance : Lx "pieces" 5 := ⟨rfl⟩
instance : Lx "base" 6 := ⟨rfl⟩
instance : Lx "left" 7 := ⟨rfl⟩
instance : Lx "shelf" 8 := ⟨rfl⟩
instance : Lx "told_events" 9 := ⟨rfl⟩
instance : Lx "ended" 10 := ⟨rfl⟩
instance : Lx "frames" 11 := ⟨rfl⟩
instance : Lx "deepest" 12 := ⟨rfl⟩
instance : Lx "papers" 13 := ⟨rfl⟩
instance : Lx "needs_now" 14 := ⟨rfl⟩
instance : Lx "stops_now" 15 := ⟨rfl⟩
instance : Lx "piece" 16 := ⟨rfl⟩
instance : Lx "locals_now" 17 := ⟨rfl⟩
instance : Lx "at" 18 := ⟨rfl⟩
instance : Lx "waits" 19 := ⟨rfl⟩
instance : Lx "vouch" 20 := ⟨rfl⟩
instance : Lx "set_now" 21 := ⟨rfl⟩
instance : Lx "top" 22 := ⟨rfl⟩
instance : Lx "enter" 23 := ⟨rfl⟩
instance : Lx "place" 24 := ⟨rfl⟩
instance : Lx "stop" 25 := ⟨rfl⟩
instance : Lx "go_on" 26 := ⟨rfl⟩
instance : Lx "done" 27 := ⟨rfl⟩
instance : Lx "asked" 28 := ⟨rfl⟩
instance : Lx "ends_with" 29 := ⟨rfl⟩
instance : Lx "use_call" 30 := ⟨rfl⟩
instance : Lx "why_not" 31 := ⟨rfl⟩
instance : Lx "call" 32 := ⟨rfl⟩
instance : Lx "ask" 33 := ⟨rfl⟩
instance : Lx "row_done" 34 := ⟨rfl⟩
instance : Lx "go" 35 := ⟨rfl⟩
instance : Lx "give" 36 := ⟨rfl⟩
instance : Lx "value" 37 := ⟨rfl⟩
instance : Lx "paper_of" 38 := ⟨rfl⟩
instance : Lx "set" 39 := ⟨rfl⟩
instance : Lx "same" 40 := ⟨rfl⟩
instance : Lx "sum" 41 := ⟨rfl⟩
instance : Lx "less" 42 := ⟨rfl⟩
instance : Lx "hold" 43 := ⟨rfl⟩
instance : Lx "last" 44 := ⟨rfl⟩
instance : Lx "keep" 45 := ⟨rfl⟩
instance : Lx "kept" 46 := ⟨rfl⟩
instance : Lx "skip" 47 := ⟨rfl⟩
instance : Lx "over" 48 := ⟨rfl⟩
instance : Lx "on" 49 := ⟨rfl⟩
instance : Lx "count" 50 := ⟨rfl⟩
instance : Lx "deed" 51 := ⟨rfl⟩
instance : Lx "gives" 52 := ⟨rfl⟩
instance : Lx "spent" 53 := ⟨rfl⟩
instance : Lx "stuck" 54 := ⟨rfl⟩
instance : Lx "refused" 55 := ⟨rfl⟩
instance : Lx "number" 56 := ⟨rfl⟩
instance : Lx "nobody" 57 := ⟨rfl⟩
instance : Lx "many" 58 := ⟨rfl⟩
instance : Lx "function" 59 := ⟨rfl⟩
instance : Lx "great" 60 := ⟨rfl⟩
instance : Lx "deep" 61 := ⟨rfl⟩
instance : Lx "held" 62 := ⟨rfl⟩
instance : Lx "lacks" 63 := ⟨rfl⟩
instance : Lx "fun" 64 := ⟨rfl⟩
instance : Lx "me" 65 := ⟨rfl⟩
instance : Lx "other" 66 := ⟨rfl⟩
instance : Lx "x" 67 := ⟨rfl⟩
instance : Lx "f" 68 := ⟨rfl⟩
instance : Lx "yy" 69 := ⟨rfl⟩
instance : Lx "a" 70 := ⟨rfl⟩
instance : Lx "abcdefgh" 71 := ⟨rfl⟩
instance : Lx "c" 72 := ⟨rfl⟩
instance : Lx "kk" 73 := ⟨rfl⟩
instance : Lx "none" 74 := ⟨rfl⟩
instance : Lx "w" 75 := ⟨rfl⟩
theorem lit_eq {a b : String} {i j : Nat} [x : Lx a i] [y : Lx b j] : (Str.ofString a = Str.ofString b) = (i = j) := by
  refine propext ⟨fun h => ?_, fun h => ?_⟩
  · have e1 := x.h
    have e2 := y.h
    rw [← h] at e2
    obtain ⟨l1, g1⟩ := List.getElem?_eq_some_iff.mp e1
    obtain ⟨l2, g2⟩ := List.getElem?_eq_some_iff.mp e2
    rcases Nat.lt_trichotomy i j with q | q | q
    · exact absurd (g1.trans g2.symm) (List.pairwise_iff_getElem.mp nmN i j l1 l2 q)
    · exact q
    · exact absurd (g2.trans g1.symm) (List.pairwise_iff_getElem.mp nmN j i l2 l1 q)
  · subst h
    have e1 := x.h
    rw [y.h] at e1
    exact (Option.some.inj e1).symm
theorem lit_beq {a b : String} {i j : Nat} [x : Lx a i] [y : Lx b j] : (Str.ofString a == Str.ofString b) = (i == j) := by
  have h : (Str.ofString a = Str.ofString b) = (i = j) := lit_eq
  by_cases q : i = j
  · rw [beq_iff_eq.mpr (h.mpr q), beq_iff_eq.mpr q]
  · rw [beq_eq_false_iff_ne.mpr fun z => q (h.mp z), beq_eq_false_iff_ne.mpr q]
end D
namespace R
open PySem L2 D C
def kv (l : List (Str × U)) : List (Key × U) := l.map fun p => (.inr p.1, p.2)
def getA (l : List (Str × U)) (x : Str) : Option U := (l.find? fun p => decide (p.1 = x)).map (·.2)
def putA (l : List (Str × U)) (x : Str) (v : U) : List (Str × U) := if (l.any fun p => decide (p.1 = x)) = true then l.map (fun p => if p.1 = x then (p.1, v) else p) else l ++ [(x, v)]
theorem kOfs_kU : ∀ (ks : List Key), kOfs (ks.map kU) = some ks
  | [] => rfl
  | k :: ks => by
    rw [List.map_cons]
    unfold kOfs
    rw [kOfs_kU ks]
    cases k <;> rfl
theorem kvs_mk (g : List (Key × U)) : kvsOf (g.map fun p => kU p.1) (g.map (·.2)) = some g := by
  unfold kvsOf
  rw [if_pos (by simp)]
  have : (g.map fun p => kU p.1) = (g.map (·.1)).map kU := by simp
  rw [this, kOfs_kU]
  simp only [Option.map_some]
  rw [List.zip_map']
  simp
theorem dictAt_mk {st : Store} {n : Nat} {g : List (Key × U)} (h : st[n]? = some (mkOb g)) : dictAt st (.ref n) = some g := by
  unfold dictAt
  simp only [h, mkOb]
  exact kvs_mk g
theorem valG_kv (l : List (Str × U)) (x : Str) : valG (kv l) (.inr x) = getA l x := by
  unfold valG getA kv
  rw [List.find?_map]
  cases h : l.find? ((fun kv : Key × U => decide (kv.1 = .inr x)) ∘ fun p => (.inr p.1, p.2)) with
  | none =>
    have : (l.find? fun p => decide (p.1 = x)) = none := by
      rw [← h]; congr 1; funext p; simp
    rw [this]; rfl
  | some p =>
    have : (l.find? fun p => decide (p.1 = x)) = some p := by
      rw [← h]; congr 1; funext p; simp
    rw [this]; rfl
theorem putG_kv (l : List (Str × U)) (x : Str) (v : U) : putG (kv l) (.inr x) v = kv (putA l x v) := by
  unfold putG putA kv
  have e : ((l.map fun p => ((.inr p.1 : Key), p.2)).any fun kv => decide (kv.1 = .inr x)) = l.any fun p => decide (p.1 = x) := by
    rw [List.any_map]; congr 1; funext p; simp
  rw [e]
  split
  · rw [List.map_map, List.map_map]
    apply List.map_congr_left
    intro p _
    simp only [Function.comp]
    by_cases q : p.1 = x
    · simp [q]
    · simp [q]
  · simp
inductive Way where | hand | melt | walk
  deriving DecidableEq
def Way.cls : Way → Str
  | .hand => Str.ofString "Hand" | .melt => Str.ofString "Melt" | .walk => Str.ofString "Walk"
structure Fm where
  pc : Piece
  loc : List (Str × U)
  pos : Nat
  waits : Option Str
  vouch : List Str
  now : List Str
structure Rn where
  bk : List Piece
  base : List Str
  left : Nat
  shelf : List (Str × U)
  evs : List U
  ended : Option U
  frames : List Fm
  deepest : Nat
  papers : List U
  needs : List (List Str)
  stops : List (List Str)
/-- where a run's objects lie -/
structure Ly where
  m : Nat
  sh : Nat
  ev : Nat
  fl : Nat
  p : Nat
  q : Nat
  fs : List (Nat × Nat)
def oS : Option Str → U
  | none => .non
  | some x => .str x
def oU : Option U → U
  | none => .non
  | some x => x
def frFs (f : Fm) (b : Nat) : List (Str × U) := [(Str.ofString "piece", f.pc.u), (Str.ofString "locals_now", .ref b), (Str.ofString "at", .int f.pos), (Str.ofString "waits", oS f.waits), (Str.ofString "vouch", tS f.vouch), (Str.ofString "set_now", tS f.now)]
def core (L : Ly) (S : Rn) : List (Str × U) := [(Str.ofString "pieces", bookU S.bk), (Str.ofString "base", tS S.base), (Str.ofString "left", .int S.left), (Str.ofString "shelf", .ref L.sh), (Str.ofString "told_events", .ref L.ev), (Str.ofString "ended", oU S.ended), (Str.ofString "frames", .ref L.fl), (Str.ofString "deepest", .int S.deepest)]
def runFs (w : Way) (L : Ly) (S : Rn) : List (Str × U) := match w with
  | .hand => core L S
  | .walk => (Str.ofString "papers", .ref L.p) :: core L S
  | .melt => (Str.ofString "needs_now", .ref L.p) :: (Str.ofString "stops_now", .ref L.q) :: core L S
def flat : List (Nat × Nat) → List Nat
  | [] => []
  | (a, b) :: r => a :: b :: flat r
def xs (w : Way) (L : Ly) : List Nat := match w with
  | .hand => []
  | .walk => [L.p]
  | .melt => [L.p, L.q]
def adr (w : Way) (L : Ly) : List Nat := L.m :: L.sh :: L.ev :: L.fl :: (xs w L ++ flat L.fs)
def FrRep (st : Store) : List (Nat × Nat) → List Fm → Prop
  | [], [] => True
  | (a, b) :: r, f :: fs => st[a]? = some (.obj (Str.ofString "Frame") (frFs f b)) ∧ st[b]? = some (mkOb (kv f.loc)) ∧ FrRep st r fs
  | _, _ => False
def XRep (w : Way) (st : Store) (L : Ly) (S : Rn) : Prop := match w with
  | .hand => True
  | .walk => st[L.p]? = some (.lst S.papers)
  | .melt => st[L.p]? = some (.lst (S.needs.reverse.map tS)) ∧ st[L.q]? = some (.lst (S.stops.reverse.map tS))
structure Rep (w : Way) (s0 : Store) (L : Ly) (st : Store) (S : Rn) : Prop where
  ob : st[L.m]? = some (.obj w.cls (runFs w L S))
  sh : st[L.sh]? = some (mkOb (kv S.shelf))
  ev : st[L.ev]? = some (.lst S.evs)
  fl : st[L.fl]? = some (.lst (L.fs.map fun p => U.ref p.1).reverse)
  xp : XRep w st L S
  fr : FrRep st L.fs S.frames
  nd : (adr w L).Nodup
  lo : ∀ i ∈ adr w L, s0.length ≤ i ∧ i < st.length
  pre : ∀ i, i < s0.length → st[i]? = s0[i]?
theorem FrRep.eq {st st' : Store} : ∀ {fs : List (Nat × Nat)} {frs : List Fm}, FrRep st fs frs → (∀ i ∈ flat fs, st'[i]? = st[i]?) → FrRep st' fs frs
  | [], [], _, _ => trivial
  | (a, b) :: r, f :: fs, ⟨h1, h2, h3⟩, h => ⟨by rw [h a (by simp [flat]), h1], by rw [h b (by simp [flat]), h2], h3.eq fun i hi => h i (by simp [flat, hi])⟩
  | [], _ :: _, h, _ => h.elim
  | _ :: _, [], h, _ => h.elim
theorem set_ne {st : Store} {i j : Nat} {x : Ob} (h : j ≠ i) : (st.set i x)[j]? = st[j]? := by
  rw [List.getElem?_set]; simp [Ne.symm h]
theorem set_at {st : Store} {i : Nat} {x y : Ob} (h : st[i]? = some y) : (st.set i x)[i]? = some x := by
  obtain ⟨hl, _⟩ := List.getElem?_eq_some_iff.mp h
  rw [List.getElem?_set]; simp [hl]
theorem app_lt {st t : Store} {i : Nat} (h : i < st.length) : (st ++ t)[i]? = st[i]? := List.getElem?_append_left h
/-- writing at one address -/
theorem Rep.upd {w : Way} {s0 st : Store} {L : Ly} {S S' : Rn} (h : Rep w s0 L st S) {i : Nat} {x : Ob} (hi : i ∈ adr w L)
    (ob : (st.set i x)[L.m]? = some (.obj w.cls (runFs w L S'))) (sh : (st.set i x)[L.sh]? = some (mkOb (kv S'.shelf))) (ev : (st.set i x)[L.ev]? = some (.lst S'.evs))
    (fl : (st.set i x)[L.fl]? = some (.lst (L.fs.map fun p => U.ref p.1).reverse)) (xp : XRep w (st.set i x) L S') (fr : FrRep (st.set i x) L.fs S'.frames) : Rep w s0 L (st.set i x) S' where
  ob := ob
  sh := sh
  ev := ev
  fl := fl
  xp := xp
  fr := fr
  nd := h.nd
  lo := fun j hj => by rw [List.length_set]; exact h.lo j hj
  pre := fun j hj => by rw [set_ne (fun e => by have := (h.lo i hi).1; omega)]; exact h.pre j hj
theorem Rep.dis {w : Way} {s0 st : Store} {L : Ly} {S : Rn} (h : Rep w s0 L st S) : L.m ≠ L.sh ∧ L.m ≠ L.ev ∧ L.m ≠ L.fl ∧ L.sh ≠ L.ev ∧ L.sh ≠ L.fl ∧ L.ev ≠ L.fl ∧ (∀ i ∈ xs w L ++ flat L.fs, L.m ≠ i ∧ L.sh ≠ i ∧ L.ev ≠ i ∧ L.fl ≠ i) ∧ (xs w L).Nodup ∧ (flat L.fs).Nodup ∧ ∀ i ∈ xs w L, ∀ j ∈ flat L.fs, i ≠ j := by
  have n := h.nd
  unfold adr at n
  simp only [List.nodup_cons, List.mem_cons, not_or] at n
  obtain ⟨⟨a1, a2, a3, a4⟩, ⟨b1, b2, b3⟩, ⟨c1, c2⟩, d1, d2⟩ := n
  rw [List.nodup_append] at d2
  refine ⟨a1, a2, a3, b1, b2, c1, fun i hi => ⟨?_, ?_, ?_, ?_⟩, d2.1, d2.2.1, d2.2.2⟩
  · exact fun e => a4 (e ▸ hi)
  · exact fun e => b3 (e ▸ hi)
  · exact fun e => c2 (e ▸ hi)
  · exact fun e => d1 (e ▸ hi)
theorem XRep.eq {w : Way} {st st' : Store} {L : Ly} {S S' : Rn} (h : XRep w st L S) (e : ∀ i ∈ xs w L, st'[i]? = st[i]?) (e1 : S'.papers = S.papers) (e2 : S'.needs = S.needs) (e3 : S'.stops = S.stops) : XRep w st' L S' := by
  cases w
  · trivial
  · unfold XRep at h ⊢
    simp only [e2, e3]
    rw [e L.p (by simp [xs]), e L.q (by simp [xs])]
    exact h
  · unfold XRep at h ⊢
    simp only [e1]
    rw [e L.p (by simp [xs])]
    exact h
section
variable {w : Way} {s0 st : Store} {L : Ly} {S : Rn}
/-- a frame more -/
theorem Rep.push (h : Rep w s0 L st S) (f : Fm) :
    Rep w s0 {L with fs := (st.length, st.length + 1) :: L.fs} ((st ++ [.obj (Str.ofString "Frame") (frFs f (st.length + 1)), mkOb (kv f.loc)]).set L.fl (.lst ((L.fs.map fun p => U.ref p.1).reverse ++ [.ref st.length]))) {S with frames := f :: S.frames} := by
  obtain ⟨d1, d2, d3, d4, d5, d6, dx, -, dn, dy⟩ := h.dis
  have hx : xs w {L with fs := (st.length, st.length + 1) :: L.fs} = xs w L := by cases w <;> rfl
  have lt : ∀ i ∈ adr w L, i < st.length := fun i hi => (h.lo i hi).2
  have lfl : L.fl < st.length := lt _ (by simp [adr])
  have g : ∀ i ∈ adr w L, i ≠ L.fl → ((st ++ [.obj (Str.ofString "Frame") (frFs f (st.length + 1)), mkOb (kv f.loc)]).set L.fl (.lst ((L.fs.map fun p => U.ref p.1).reverse ++ [.ref st.length])))[i]? = st[i]? := fun i hi q => by
    rw [set_ne q, app_lt (lt i hi)]
  have mem : ∀ i, i ∈ xs w L ++ flat L.fs → i ∈ adr w L := fun i hi => by simp only [adr, List.mem_cons]; exact .inr (.inr (.inr (.inr hi)))
  exact {
    ob := by rw [g _ (by simp [adr]) d3, h.ob]; cases w <;> rfl
    sh := by rw [g _ (by simp [adr]) d5, h.sh]
    ev := by rw [g _ (by simp [adr]) d6, h.ev]
    fl := by
      rw [set_at (y := .lst (L.fs.map fun p => U.ref p.1).reverse) (by rw [app_lt lfl, h.fl])]
      simp
    xp := by
      have := h.xp.eq (S' := S) (fun i hi => g i (mem i (by simp [hi])) (Ne.symm (dx i (by simp [hi])).2.2.2)) rfl rfl rfl
      cases w
      · trivial
      · exact this
      · exact this
    fr := by
      refine ⟨?_, ?_, h.fr.eq fun i hi => g i (mem i (by simp [hi])) (Ne.symm (dx i (by simp [hi])).2.2.2)⟩
      · rw [set_ne (by omega)]; simp
      · rw [set_ne (by omega)]; simp
    nd := by
      have n := h.nd
      have l := lt
      have y : ∀ i ∈ adr w L, i ≠ st.length ∧ i ≠ st.length + 1 := fun i hi => by have := lt i hi; omega
      unfold adr at n y ⊢
      rw [hx]
      simp only [flat, List.nodup_cons, List.mem_cons, List.mem_append, not_or, List.nodup_append] at n y ⊢
      obtain ⟨⟨a1, a2, a3, a4, a5⟩, ⟨b1, b2, b3, b4⟩, ⟨c1, c2, c3⟩, ⟨e1, e2⟩, n1, n2, n3⟩ := n
      refine ⟨⟨a1, a2, a3, a4, ?_, ?_, a5⟩, ⟨b1, b2, b3, ?_, ?_, b4⟩, ⟨c1, c2, ?_, ?_, c3⟩, ⟨e1, ?_, ?_, e2⟩, n1, ⟨⟨by omega, fun z => ?_⟩, fun z => ?_, n2⟩, fun i hi j hj => ?_⟩
      · exact (y _ (by simp)).1
      · exact (y _ (by simp)).2
      · exact (y _ (by simp)).1
      · exact (y _ (by simp)).2
      · exact (y _ (by simp)).1
      · exact (y _ (by simp)).2
      · exact (y _ (by simp)).1
      · exact (y _ (by simp)).2
      · exact (y _ (by simp [z])).1 rfl
      · exact (y _ (by simp [z])).2 rfl
      · rcases hj with rfl | rfl | hj
        · exact (y _ (by simp [hi])).1
        · exact (y _ (by simp [hi])).2
        · exact n3 i hi j hj
    lo := fun i hi => by
      have y : i ∈ adr w L ∨ i = st.length ∨ i = st.length + 1 := by
        simp only [adr, hx, flat, List.mem_cons, List.mem_append] at hi ⊢
        rcases hi with q | q | q | q | q | q | q | q <;> simp [q]
      rw [List.length_set, List.length_append]
      have z := (h.lo L.fl (by simp [adr])).1
      rcases y with y | y | y
      · have := h.lo i y; simp only [List.length_cons, List.length_nil]; omega
      · simp; omega
      · simp; omega
    pre := fun i hi => by
      have z := (h.lo L.fl (by simp [adr]))
      rw [set_ne (by omega), app_lt (by omega)]; exact h.pre i hi }
end
end R
namespace R
open PySem L2 D C
section
variable {w : Way} {s0 st : Store} {L : Ly} {S : Rn} {f : Fm} {b : Nat}
@[simp] theorem g_pieces : (runFs w L S).lookup (Str.ofString "pieces") = some (bookU S.bk) := by cases w <;> simp [runFs, core, List.lookup, lit_beq]
@[simp] theorem g_base : (runFs w L S).lookup (Str.ofString "base") = some (tS S.base) := by cases w <;> simp [runFs, core, List.lookup, lit_beq]
@[simp] theorem g_left : (runFs w L S).lookup (Str.ofString "left") = some (.int S.left) := by cases w <;> simp [runFs, core, List.lookup, lit_beq]
@[simp] theorem g_shelf : (runFs w L S).lookup (Str.ofString "shelf") = some (.ref L.sh) := by cases w <;> simp [runFs, core, List.lookup, lit_beq]
@[simp] theorem g_told_events : (runFs w L S).lookup (Str.ofString "told_events") = some (.ref L.ev) := by cases w <;> simp [runFs, core, List.lookup, lit_beq]
@[simp] theorem g_ended : (runFs w L S).lookup (Str.ofString "ended") = some (oU S.ended) := by cases w <;> simp [runFs, core, List.lookup, lit_beq]
@[simp] theorem g_frames : (runFs w L S).lookup (Str.ofString "frames") = some (.ref L.fl) := by cases w <;> simp [runFs, core, List.lookup, lit_beq]
@[simp] theorem g_deepest : (runFs w L S).lookup (Str.ofString "deepest") = some (.int S.deepest) := by cases w <;> simp [runFs, core, List.lookup, lit_beq]
@[simp] theorem n_top : (runFs w L S).lookup (Str.ofString "top") = none := by cases w <;> simp [runFs, core, List.lookup, lit_beq]
@[simp] theorem n_enter : (runFs w L S).lookup (Str.ofString "enter") = none := by cases w <;> simp [runFs, core, List.lookup, lit_beq]
@[simp] theorem n_place : (runFs w L S).lookup (Str.ofString "place") = none := by cases w <;> simp [runFs, core, List.lookup, lit_beq]
@[simp] theorem n_stop : (runFs w L S).lookup (Str.ofString "stop") = none := by cases w <;> simp [runFs, core, List.lookup, lit_beq]
@[simp] theorem n_go_on : (runFs w L S).lookup (Str.ofString "go_on") = none := by cases w <;> simp [runFs, core, List.lookup, lit_beq]
@[simp] theorem n_done : (runFs w L S).lookup (Str.ofString "done") = none := by cases w <;> simp [runFs, core, List.lookup, lit_beq]
@[simp] theorem n_asked : (runFs w L S).lookup (Str.ofString "asked") = none := by cases w <;> simp [runFs, core, List.lookup, lit_beq]
@[simp] theorem n_ends_with : (runFs w L S).lookup (Str.ofString "ends_with") = none := by cases w <;> simp [runFs, core, List.lookup, lit_beq]
@[simp] theorem n_use_call : (runFs w L S).lookup (Str.ofString "use_call") = none := by cases w <;> simp [runFs, core, List.lookup, lit_beq]
@[simp] theorem n_why_not : (runFs w L S).lookup (Str.ofString "why_not") = none := by cases w <;> simp [runFs, core, List.lookup, lit_beq]
@[simp] theorem n_call : (runFs w L S).lookup (Str.ofString "call") = none := by cases w <;> simp [runFs, core, List.lookup, lit_beq]
@[simp] theorem n_ask : (runFs w L S).lookup (Str.ofString "ask") = none := by cases w <;> simp [runFs, core, List.lookup, lit_beq]
@[simp] theorem n_row_done : (runFs w L S).lookup (Str.ofString "row_done") = none := by cases w <;> simp [runFs, core, List.lookup, lit_beq]
@[simp] theorem n_go : (runFs w L S).lookup (Str.ofString "go") = none := by cases w <;> simp [runFs, core, List.lookup, lit_beq]
@[simp] theorem n_give : (runFs w L S).lookup (Str.ofString "give") = none := by cases w <;> simp [runFs, core, List.lookup, lit_beq]
@[simp] theorem n_value : (runFs w L S).lookup (Str.ofString "value") = none := by cases w <;> simp [runFs, core, List.lookup, lit_beq]
@[simp] theorem n_paper_of : (runFs w L S).lookup (Str.ofString "paper_of") = none := by cases w <;> simp [runFs, core, List.lookup, lit_beq]
@[simp] theorem nf_give : (frFs f b).lookup (Str.ofString "give") = none := by simp [frFs, List.lookup, lit_beq]
@[simp] theorem nf_value : (frFs f b).lookup (Str.ofString "value") = none := by simp [frFs, List.lookup, lit_beq]
@[simp] theorem gf_piece : (frFs f b).lookup (Str.ofString "piece") = some (f.pc.u) := by simp [frFs, List.lookup, lit_beq]
@[simp] theorem gf_locals_now : (frFs f b).lookup (Str.ofString "locals_now") = some (.ref b) := by simp [frFs, List.lookup, lit_beq]
@[simp] theorem gf_at : (frFs f b).lookup (Str.ofString "at") = some (.int f.pos) := by simp [frFs, List.lookup, lit_beq]
@[simp] theorem gf_waits : (frFs f b).lookup (Str.ofString "waits") = some (oS f.waits) := by simp [frFs, List.lookup, lit_beq]
@[simp] theorem gf_vouch : (frFs f b).lookup (Str.ofString "vouch") = some (tS f.vouch) := by simp [frFs, List.lookup, lit_beq]
@[simp] theorem gf_set_now : (frFs f b).lookup (Str.ofString "set_now") = some (tS f.now) := by simp [frFs, List.lookup, lit_beq]
@[simp] theorem pf_at (n : Nat) : putU (Str.ofString "at") (.int n) (frFs f b) = frFs {f with pos := n} b := by simp [frFs, putU, lit_eq]
@[simp] theorem pf_waits (x : Str) : putU (Str.ofString "waits") (.str x) (frFs f b) = frFs {f with waits := some x} b := by simp [frFs, putU, lit_eq, oS]
@[simp] theorem pf_waits0 : putU (Str.ofString "waits") .non (frFs f b) = frFs {f with waits := none} b := by simp [frFs, putU, lit_eq, oS]
@[simp] theorem p_left (n : Nat) : putU (Str.ofString "left") (.int n) (runFs w L S) = runFs w L {S with left := n} := by cases w <;> simp [runFs, core, putU, lit_eq]
@[simp] theorem p_deepest (n : Nat) : putU (Str.ofString "deepest") (.int n) (runFs w L S) = runFs w L {S with deepest := n} := by cases w <;> simp [runFs, core, putU, lit_eq]
@[simp] theorem g_papers : (runFs .walk L S).lookup (Str.ofString "papers") = some (.ref L.p) := by simp [runFs, core, List.lookup, lit_beq]
@[simp] theorem g_needs : (runFs .melt L S).lookup (Str.ofString "needs_now") = some (.ref L.p) := by simp [runFs, core, List.lookup, lit_beq]
@[simp] theorem g_stops : (runFs .melt L S).lookup (Str.ofString "stops_now") = some (.ref L.q) := by simp [runFs, core, List.lookup, lit_beq]
@[simp] theorem p_needs (n : Nat) : putU (Str.ofString "needs_now") (.ref n) (runFs .melt L S) = runFs .melt {L with p := n} S := by simp [runFs, core, putU, lit_eq]
@[simp] theorem p_stops (n : Nat) : putU (Str.ofString "stops_now") (.ref n) (runFs .melt L S) = runFs .melt {L with q := n} S := by simp [runFs, core, putU, lit_eq]
@[simp] theorem runFs_len : (runFs w L S).length < 1000 := by cases w <;> simp [runFs, core]
@[simp] theorem frFs_len : (frFs f b).length < 1000 := by simp [frFs]
@[simp] theorem last_rev (a : Nat × Nat) (r : List (Nat × Nat)) (g : Nat × Nat → U) : atI ((r.map g).reverse ++ [g a]) (-1) = some (g a) := by
  have e : ixN ((r.map g).reverse ++ [g a]).length (-1) = some r.length := by
    unfold ixN
    rw [if_neg (by omega), if_pos (by simp; omega)]
    simp
    omega
  unfold atI
  rw [e]
  simp
@[simp] theorem cls_ne : ¬ (w.cls = Str.ofString "Frame") := by cases w <;> simp [Way.cls, lit_eq]
end
end R
namespace R
open PySem L2 D C
def fnU (n : Str) (vs : List U) : U := .tup [.str wFun, .str n, .tup vs]
def Fm.val (f : Fm) (x : Str) : U := (getA f.loc x).getD (.int 0)
def Fm.giv (f : Fm) (x : Str) (v : U) : Fm := {f with loc := putA f.loc x v}
def Fm.on (f : Fm) (k : Nat) : Fm := {f with pos := f.pos + (1 + k)}
def Rn.place (S : Rn) : List U := match S.frames with
  | f :: _ => [.str f.pc.name, .int f.pos]
  | [] => []
def Rn.stop (S : Rn) (l : List U) : Rn := {S with ended := some (.tup (l ++ S.place))}
def Rn.goOn (S : Rn) (k : Nat) : Rn := {S with frames := match S.frames with
  | f :: fs => f.on k :: fs
  | [] => []}
def Rn.done (S : Rn) (x : Str) (v : U) : Rn := {S with evs := S.evs ++ [.tup ([.str (Str.ofString "deed"), .str x, v] ++ S.place)]}
def arith (f : Fm) (x : Str) (op : Int → Int → Int) (u v : U) : Option Str × Fm := match u, v with
  | .int i, .int j => if okN (op i j) = true then (none, f.giv x (.int (op i j))) else (some (Str.ofString "great"), f)
  | _, _ => (some (Str.ofString "function"), f)
/-- one of the plain rows -/
def plainF (f : Fm) (sh : List (Str × U)) : Row → Option Str × Fm × List (Str × U)
  | .set x n => (none, f.giv x (.int n), sh)
  | .same x a => (none, f.giv x (f.val a), sh)
  | .keep c a => (none, f, putA sh c (f.val a))
  | .kept x c => (none, f.giv x ((getA sh c).getD (.int 0)), sh)
  | .hold x n as => if 4 < deepU 5 (fnU n (as.map f.val)) then (some (Str.ofString "deep"), f, sh) else (none, f.giv x (fnU n (as.map f.val)), sh)
  | .sum x a b => let q := arith f x (· + ·) (f.val a) (f.val b); (q.1, q.2, sh)
  | .less x a b => let q := arith f x (· - ·) (f.val a) (f.val b); (q.1, q.2, sh)
  | _ => (none, f, sh)
def findP (bk : List Piece) (n : Str) : Option Piece := bk.find? fun p => decide (p.name = n)
def whyNot (bk : List Piece) (v : U) (k : Nat) : Option Str := match v with
  | .tup [_, .str n, .tup us] => match findP bk n with
    | none => some (Str.ofString "nobody")
    | some p => if us.length + k = p.params.length then none else some (Str.ofString "many")
  | _ => some (Str.ofString "number")
def enteredS (own caller theirs vouch : List Str) : List Str := bothS own (joinS caller (bothS vouch theirs))
def zipA (ks : List Str) (vs : List U) : List (Str × U) := (ks.zip vs).foldl (fun acc p => putA acc p.1 p.2) []
def newF (p : Piece) (gv : List U) : Fm := ⟨p, zipA p.params gv, 0, none, [], []⟩
def Rn.push (S : Rn) (f : Fm) : Rn := {S with frames := f :: S.frames, deepest := max S.deepest (S.frames.length + 1)}
/-- a piece is entered; c: its caller, on top -/
def Rn.enter (w : Way) (S : Rn) (p : Piece) (gv : List U) (c : Option Fm) (vs : List Str) : Rn := match w, c with
  | .hand, none => S.push {newF p gv with now := bothS p.own S.base}
  | .hand, some c => (if c.waits = none then {S with frames := S.frames.drop 1} else S).push {newF p gv with now := enteredS p.own c.now c.pc.own vs}
  | .walk, none => S.push (newF p gv)
  | .walk, some c => ({S with frames := {c with vouch := vs} :: S.frames.drop 1} : Rn).push (newF p gv)
  | .melt, none => ({S with needs := p.own :: S.needs, stops := [] :: S.stops} : Rn).push (newF p gv)
  | .melt, some c => if c.waits = none then match S.needs, S.stops with
      | below :: ns, sb :: ss => ({S with frames := S.frames.drop 1, needs := bothS p.own (joinS (bothS c.pc.own vs) below) :: ns, stops := joinS (bothS c.pc.own vs) (bothS below sb) :: ss} : Rn).push (newF p gv)
      | _, _ => S
    else ({S with needs := p.own :: S.needs, stops := bothS c.pc.own vs :: S.stops} : Rn).push (newF p gv)
def Rn.use (S : Rn) (k : Rn → Rn) : Rn := match S.left with
  | 0 => S.stop [.str (Str.ofString "spent")]
  | n + 1 => k {S with left := n}
def Rn.call (w : Way) (S : Rn) (f : Fm) (fs : List Fm) (x : Option Str) (g : Str) (as vs : List Str) : Rn := match whyNot S.bk (f.val g) as.length with
  | some y => S.stop [.str (Str.ofString "stuck"), .str y]
  | none => S.use fun S => match f.val g with
    | .tup [_, .str n, .tup us] => match findP S.bk n with
      | some p =>
        let c := {f with waits := match x with | some y => some y | none => f.waits}
        ({S with frames := c :: fs} : Rn).enter w p (us ++ as.map f.val) (some c) vs
      | none => S
    | _ => S
/-- the frame on top ends with a value -/
def Rn.ends0 (S : Rn) (v : U) : Rn := match (S.frames.drop 1).dropWhile (fun f => f.waits.isNone) with
  | [] => {S with frames := [], ended := some (.tup [.str (Str.ofString "gives"), v])}
  | f :: r => {S with frames := ({f.giv (f.waits.getD (Str.ofString "")) v with waits := none} : Fm).on 0 :: r}
def Rn.ends (w : Way) (S : Rn) (v : U) : Rn :=
  let S1 := S.ends0 v
  match w with
  | .hand => S1
  | .walk => {S1 with frames := match S1.frames with
    | f :: r => {f with vouch := []} :: r
    | [] => []}
  | .melt => {S1 with needs := S1.needs.drop (S1.needs.length - S1.frames.length), stops := S1.stops.drop (S1.stops.length - S1.frames.length)}
def frU (n : Str) (v : List Str) : U := .tup [.str n, tS v]
/-- a paper: the frames from the asker down -/
def paper (base : List Str) (x : Str) : List Fm → Bool → List U → Str × List U
  | [], _, met => (if x ∈ base then Str.ofString "held" else Str.ofString "lacks", met)
  | f :: fs, first, met =>
    let v := if first = true then [] else f.vouch
    let met := met ++ [frU f.pc.name v]
    if x ∉ f.pc.own then (Str.ofString "lacks", met) else if x ∈ v then (Str.ofString "held", met) else paper base x fs false met
def meltAsk (base : List Str) (x : Str) : List (List Str) → List (List Str) → Bool
  | n :: ns, s :: ss => if x ∉ n then false else if x ∈ s then true else meltAsk base x ns ss
  | _, _ => decide (x ∈ base)
def Rn.asked (w : Way) (S : Rn) (x : Str) : Bool × Rn := match w with
  | .hand => (match S.frames with | f :: _ => decide (x ∈ f.now) | [] => false, S)
  | .melt => (meltAsk S.base x S.needs S.stops, S)
  | .walk =>
    let p := paper S.base x S.frames true []
    (decide (p.1 = Str.ofString "held"), {S with papers := S.papers ++ [.tup [.str p.1, .lst p.2]]})
def isZ : U → Bool
  | .int i => decide (i = 0)
  | _ => false
def Rn.rowDone (w : Way) (S : Rn) (f : Fm) (fs : List Fm) : Row → Rn
  | .call x g as vs => S.call w f fs (some x) g as vs
  | .last g as vs => S.call w f fs none g as vs
  | .give a => S.ends w (f.val a)
  | .done x a => (S.done x (f.val a)).goOn 0
  | .skip a k => S.goOn (if isZ (f.val a) = true then k.toNat else 0)
  | .over k => S.goOn k.toNat
  | .on => S.goOn 0
  | .count => S.use fun S => S.goOn 0
  | .ask x k =>
    let q := S.asked w x
    ({q.2 with evs := q.2.evs ++ [.tup ([.str (Str.ofString "ask"), .str x, .bl q.1] ++ q.2.place)]} : Rn).goOn (if q.1 = true then 0 else k.toNat)
  | .deed x a =>
    let q := S.asked w x
    if q.1 = true then (q.2.done x (f.val a)).goOn 0 else q.2.stop [.str (Str.ofString "refused"), .str x]
  | r => match plainF f S.shelf r with
    | (some y, _, _) => S.stop [.str (Str.ofString "stuck"), .str y]
    | (none, f', sh') => ({S with frames := f' :: fs, shelf := sh'} : Rn).goOn 0
def Rn.step (w : Way) (S : Rn) : Rn := match S.frames with
  | [] => S
  | f :: fs => match f.pc.rows[f.pos]? with
    | none => S.ends w (.int 0)
    | some r => S.rowDone w f fs r
def Rn.go (w : Way) : Nat → Rn → Rn
  | 0, S => S
  | n + 1, S => match S.ended with
    | some _ => S
    | none => Rn.go w n (S.step w)
end R
namespace T_allcallers_k40_led_back
open PySem L2 D
def topS (i : Nat) : Stmt := PySem.Challenge.pw_allcallers_k40_led_back.main.body.getD i (.Pass ⟨0, 0, 0, 0⟩)
abbrev s_l_draw : Stmt := topS 5
abbrev n_l_draw : List Str := [Str.ofString "_law_hand_here", Str.ofString "_law_many", Str.ofString "_law_found"]
theorem sc_l_draw : FnScope n_l_draw [Str.ofString "_law_hand_here", Str.ofString "_law_many"] (defScope s_l_draw) := ⟨rfl, rfl, rfl, by decide +kernel, rfl, by decide +kernel, by decide +kernel⟩
abbrev s_l_place : Stmt := topS 7
abbrev n_l_place : List Str := [Str.ofString "_law_hand_here", Str.ofString "_law_places", Str.ofString "_law_names", Str.ofString "_law_name"]
theorem sc_l_place : FnScope n_l_place [Str.ofString "_law_hand_here", Str.ofString "_law_places"] (defScope s_l_place) := ⟨rfl, rfl, rfl, by decide +kernel, rfl, by decide +kernel, by decide +kernel⟩
abbrev s_l_value : Stmt := topS 8
abbrev n_l_value : List Str := [Str.ofString "_law_hand_here", Str.ofString "_law_places", Str.ofString "_law_name", Str.ofString "_law_row"]
theorem sc_l_value : FnScope n_l_value [Str.ofString "_law_hand_here", Str.ofString "_law_places"] (defScope s_l_value) := ⟨rfl, rfl, rfl, by decide +kernel, rfl, by decide +kernel, by decide +kernel⟩
abbrev s_l_words : Stmt := topS 6
abbrev n_l_words : List Str := [Str.ofString "_law_hand_here", Str.ofString "_law_many", Str.ofString "_law_letters", Str.ofString "_law_first", Str.ofString "_law_tail", Str.ofString "_law_word", Str.ofString "_law_k", Str.ofString "_law_j"]
theorem sc_l_words : FnScope n_l_words [Str.ofString "_law_hand_here", Str.ofString "_law_many"] (defScope s_l_words) := ⟨rfl, rfl, rfl, by decide +kernel, rfl, by decide +kernel, by decide +kernel⟩
abbrev s_l_drawn : Stmt := topS 9
abbrev n_l_drawn : List Str := [Str.ofString "_law_hand_here", Str.ofString "_law_places", Str.ofString "_law_name", Str.ofString "_law_place_here", Str.ofString "_law_word", Str.ofString "_law_value_here", Str.ofString "_law_ends", Str.ofString "_law_end", Str.ofString "_law_events", Str.ofString "_law_k", Str.ofString "_law_cells", Str.ofString "_law_event", Str.ofString "_law_row"]
theorem sc_l_drawn : FnScope n_l_drawn [Str.ofString "_law_hand_here"] (defScope s_l_drawn) := ⟨rfl, rfl, rfl, by decide +kernel, rfl, by decide +kernel, by decide +kernel⟩
abbrev s_l_due : Stmt := topS 10
abbrev n_l_due : List Str := [Str.ofString "_law_places", Str.ofString "_law_told", Str.ofString "_law_end", Str.ofString "_law_events", Str.ofString "_law_cells", Str.ofString "_law_deepest", Str.ofString "_law_event"]
theorem sc_l_due : FnScope n_l_due [Str.ofString "_law_places", Str.ofString "_law_told"] (defScope s_l_due) := ⟨rfl, rfl, rfl, by decide +kernel, rfl, by decide +kernel, by decide +kernel⟩
abbrev s_l_hand : Stmt := topS 4
abbrev n_l_hand : List Str := [Str.ofString "_law_script", Str.ofString "_law_k", Str.ofString "_law_cell", Str.ofString "_law_seed"]
theorem sc_l_hand : FnScope n_l_hand [Str.ofString "_law_script", Str.ofString "_law_k"] (defScope s_l_hand) := ⟨rfl, rfl, rfl, by decide +kernel, rfl, by decide +kernel, by decide +kernel⟩
abbrev s_place_back : Stmt := topS 1
abbrev n_place_back : List Str := [Str.ofString "places", Str.ofString "told"]
theorem sc_place_back : FnScope n_place_back [Str.ofString "places", Str.ofString "told"] (defScope s_place_back) := ⟨rfl, rfl, rfl, by decide +kernel, rfl, by decide +kernel, by decide +kernel⟩
abbrev s_led_back : Stmt := topS 2
abbrev n_led_back : List Str := [Str.ofString "places", Str.ofString "told", Str.ofString "end", Str.ofString "events", Str.ofString "cells", Str.ofString "deepest", Str.ofString "one"]
theorem sc_led_back : FnScope n_led_back [Str.ofString "places", Str.ofString "told"] (defScope s_led_back) := ⟨rfl, rfl, rfl, by decide +kernel, rfl, by decide +kernel, by decide +kernel⟩
abbrev s_law : Stmt := topS 11
abbrev n_law : List Str := [Str.ofString "_law_script", Str.ofString "_law_k", Str.ofString "_law_due_here", Str.ofString "_law_kept", Str.ofString "_law_given_in", Str.ofString "_law_found", Str.ofString "_law_places", Str.ofString "_law_told", Str.ofString "_law_name"]
theorem sc_law : FnScope n_law [Str.ofString "_law_script"] (defScope s_law) := ⟨rfl, rfl, rfl, by decide +kernel, rfl, by decide +kernel, by decide +kernel⟩
def b_l_draw : DS := (sSeq (sIf (tst (bin gt2 (ixR (var 0) (cst (.int 0))) (cst (.int 0)))) (sSeq (sSet 2 (bin mod2 (ixR (var 0) (cst (.int 0))) (var 1))) (sSeq (sIxR (var 0) (cst (.int 0)) (bin fdiv2 (ixR (var 0) (cst (.int 0))) (var 1))) (sSeq (sRet (var 2)) sNil))) sNil) (sSeq (sIxR (var 0) (cst (.int 1)) (bin mod2 (bin add2 (bin mul2 (ixR (var 0) (cst (.int 1))) (cst (.int 48271))) (cst (.int 11))) (cst (.int 2147483647)))) (sSeq (sRet (bin mod2 (bin fdiv2 (bin mod2 (bin mul2 (ixR (var 0) (cst (.int 1))) (ixR (var 0) (cst (.int 1)))) (cst (.int 2147483629))) (cst (.int 64))) (var 1))) sNil)))
def f_l_draw : List U → Store → Rs U := runB 3 2 b_l_draw
def b_l_place : DS := (sSeq (sSet 2 (newL (sortD (var 1)))) (sSeq (sSet 3 (bin ix2 (var 2) (appU f_l_draw (acons (var 0) (acons (appN lenN (acons (var 2) anil)) anil))))) (sSeq (sRet (appN szT (acons (var 3) (acons (appU f_l_draw (acons (var 0) (acons (appN lenN (acons (ixG (var 1) (var 3)) anil)) anil))) anil)))) sNil)))
def f_l_place : List U → Store → Rs U := runB 4 2 b_l_place
def b_l_value : DS := (sSeq (sUnp (tgA [2, 3]) (appU f_l_place (acons (var 0) (acons (var 1) anil)))) (sSeq (sRet (bin ix2 (appN szL (acons (var 3) (acons (bin sub2 (cst (.int 0)) (var 3)) (acons (appN szT (acons (cst (.str (Str.ofString "fun"))) (acons (var 2) (acons (appN szT (acons (var 3) anil)) anil)))) (acons (appN szT (acons (cst (.str (Str.ofString "fun"))) (acons (var 2) (acons (appN szT anil) anil)))) (acons (bin pow2 (cst (.int 10)) (cst (.int 18))) anil)))))) (appU f_l_draw (acons (var 0) (acons (cst (.int 5)) anil))))) sNil))
def f_l_value : List U → Store → Rs U := runB 4 2 b_l_value
def b_l_words : DS := (sSeq (sSet 2 (cst (.str (Str.ofString "abcdefghijklmnopqrstuvwxyz")))) (sSeq (sSet 3 (appU f_l_draw (acons (var 0) (acons (cst (.int 26)) anil)))) (sSeq (sIf (tst (bin eq2 (appU f_l_draw (acons (var 0) (acons (cst (.int 3)) anil))) (cst (.int 0)))) (sSeq (sSet 5 (joinD (cst (.str (Str.ofString ""))) (newL (compD (itA rng1 (acons (cst (.int 8)) anil)) [7] (tgN 7) yesT (bin ix2 (var 2) (bin mod2 (bin add2 (var 3) (bin mul2 (cst (.int 5)) (var 7))) (cst (.int 26)))))))) (sSeq (sRet (newL (compD (itA rng1 (acons (var 1) anil)) [6] (tgN 6) yesT (slD (var 5) noO (soO (bin add2 (cst (.int 1)) (var 6))))))) sNil)) sNil) (sSeq (sSet 4 (bin ix2 (appN szL (acons (cst (.str (Str.ofString ""))) (acons (cst (.str (Str.ofString "o"))) (acons (cst (.str (Str.ofString "mine"))) (acons (cst (.str (Str.ofString "zzzzzzz"))) anil))))) (appU f_l_draw (acons (var 0) (acons (cst (.int 4)) anil))))) (sSeq (sRet (newL (compD (itA rng1 (acons (var 1) anil)) [6] (tgN 6) yesT (bin add2 (bin ix2 (var 2) (bin mod2 (bin add2 (var 3) (bin mul2 (cst (.int 3)) (var 6))) (cst (.int 26)))) (var 4))))) sNil)))))
def f_l_words : List U → Store → Rs U := runB 8 2 b_l_words
def t1_l_drawn : DS := (sSeq (sPutG (var 1) (var 2) (newL (compD (itA rng1 (acons (bin add2 (cst (.int 1)) (appU f_l_draw (acons (var 0) (acons (cst (.int 40)) anil)))) anil)) [12] (tgN 12) yesT (appU f_l_draw (acons (var 0) (acons (cst (.int 60)) anil)))))) sNil)
def t2_l_drawn : DS := (sSeq (sSet 11 (bin ix2 (appN szL (acons (appN szT (acons (cst (.str (Str.ofString "ask"))) (acons (var 4) (acons (bin eq2 (appU f_l_draw (acons (var 0) (acons (cst (.int 2)) anil))) (cst (.int 0))) anil)))) (acons (appN szT (acons (cst (.str (Str.ofString "deed"))) (acons (var 4) (acons (appU f_l_value (acons (var 0) (acons (var 1) anil))) anil)))) anil))) (appU f_l_draw (acons (var 0) (acons (cst (.int 2)) anil))))) (sSeq (sApp 8 (bin add2 (var 11) (appU f_l_place (acons (var 0) (acons (var 1) anil))))) sNil))
def b_l_drawn : DS := (sSeq (sSet 1 refD0) (sSeq (sFor (itemsD (appU f_l_words (acons (var 0) (acons (bin add2 (cst (.int 1)) (appU f_l_draw (acons (var 0) (acons (cst (.int 4)) anil)))) anil)))) (tgN 2) t1_l_drawn) (sSeq (sSet 3 (appU f_l_place (acons (var 0) (acons (var 1) anil)))) (sSeq (sSet 4 (bin ix2 (newL (sortD (var 1))) (cst (.int 0)))) (sSeq (sSet 5 (appU f_l_value (acons (var 0) (acons (var 1) anil)))) (sSeq (sSet 6 (appN szL (acons (appN szT (acons (cst (.str (Str.ofString "gives"))) (acons (var 5) anil))) (acons (bin add2 (appN szT (acons (cst (.str (Str.ofString "refused"))) (acons (var 4) anil))) (var 3)) (acons (bin add2 (appN szT (acons (cst (.str (Str.ofString "spent"))) anil)) (var 3)) (acons (bin add2 (appN szT (acons (cst (.str (Str.ofString "stuck"))) (acons (cst (.str (Str.ofString "many"))) anil))) (var 3)) anil)))))) (sSeq (sSet 7 (bin ix2 (var 6) (appU f_l_draw (acons (var 0) (acons (cst (.int 4)) anil))))) (sSeq (sOwn 8 (szDL anil)) (sSeq (sFor (itA rng1 (acons (appU f_l_draw (acons (var 0) (acons (cst (.int 10)) anil))) anil)) (tgN 9) t2_l_drawn) (sSeq (sSet 10 (newD (prsK (newL (compD (itemsD (slD (newL (sortD (var 1))) noO (soO (appU f_l_draw (acons (var 0) (acons (cst (.int 4)) anil)))))) [2] (tgN 2) yesT (appN szT (acons (var 2) (acons (appU f_l_value (acons (var 0) (acons (var 1) anil))) anil)))))))) (sSeq (frzS 8 (sRet (appN szT (acons (var 1) (acons (appN szT (acons (var 7) (acons (var 8) (acons (var 10) (acons (bin add2 (cst (.int 1)) (appU f_l_draw (acons (var 0) (acons (cst (.int 60)) anil)))) anil))))) anil))))) sNil)))))))))))
def f_l_drawn : List U → Store → Rs U := runB 13 1 b_l_drawn
def b_l_due : DS := (sSeq (sUnp (tgA [2, 3, 4, 5]) (var 1)) (sSeq (sIf (tst (bin ne2 (bin ix2 (var 2) (cst (.int 0))) (cst (.str (Str.ofString "gives"))))) (sSeq (sSet 2 (bin add2 (slD (var 2) noO (soO (neg1D (cst (.int 1))))) (appN szT (acons (bin ix2 (ixG (var 0) (bin ix2 (var 2) (neg1D (cst (.int 2))))) (bin ix2 (var 2) (neg1D (cst (.int 1))))) anil)))) sNil) sNil) (sSeq (sRet (appN szT (acons (var 2) (acons (newL (compD (itemsD (var 3)) [6] (tgN 6) yesT (bin add2 (slD (var 6) noO (soO (neg1D (cst (.int 1))))) (appN szT (acons (bin ix2 (ixG (var 0) (bin ix2 (var 6) (neg1D (cst (.int 2))))) (bin ix2 (var 6) (neg1D (cst (.int 1))))) anil))))) (acons (var 4) (acons (var 5) anil)))))) sNil)))
def f_l_due : List U → Store → Rs U := runB 7 2 b_l_due
def b_l_hand : DS := (sSeq (sSet 2 (bin ix2 (bin add2 (slD (var 0) (soO (var 1)) (soO (bin add2 (var 1) (cst (.int 1))))) (appN szL (acons (cst (.int 0)) anil))) (cst (.int 0)))) (sSeq (sSet 3 (bin mod2 (bin mul2 (bin add2 (bin add2 (bin mod2 (var 2) (cst (.int 2147483647))) (bin mul2 (cst (.int 7919)) (var 1))) (cst (.int 1))) (cst (.int 48271))) (cst (.int 2147483629)))) (sSeq (sRet (refL (szDL (acons (bin mul2 (appN intN (acons (bin ge2 (var 2) (bin pow2 (cst (.int 10)) (cst (.int 18)))) anil)) (var 2)) (acons (var 3) anil))))) sNil)))
def f_l_hand : List U → Store → Rs U := runB 4 2 b_l_hand
def b_place_back : DS := (sSeq (sRet (bin add2 (slD (var 1) noO (soO (neg1D (cst (.int 1))))) (appN szT (acons (bin ix2 (ixG (var 0) (bin ix2 (var 1) (neg1D (cst (.int 2))))) (bin ix2 (var 1) (neg1D (cst (.int 1))))) anil)))) sNil)
def f_place_back : List U → Store → Rs U := runB 2 2 b_place_back
def b_led_back : DS := (sSeq (sUnp (tgA [2, 3, 4, 5]) (var 1)) (sSeq (sIf (tst (bin ne2 (bin ix2 (var 2) (cst (.int 0))) (cst (.str (Str.ofString "gives"))))) (sSeq (sSet 2 (appU f_place_back (acons (var 0) (acons (var 2) anil)))) sNil) sNil) (sSeq (sRet (appN szT (acons (var 2) (acons (refL (compD (itemsD (var 3)) [6] (tgN 6) yesT (appU f_place_back (acons (var 0) (acons (var 6) anil))))) (acons (refDn (cpyK (var 4))) (acons (var 5) anil)))))) sNil)))
def f_led_back : List U → Store → Rs U := runB 7 2 b_led_back
def t1_law : DS := (sSeq (sUnp (tgA [6, 7]) (zD (appU f_l_drawn (acons (appU f_l_hand (acons (var 0) (acons (var 1) anil))) anil)))) (sSeq (sSet 2 (appU f_l_due (acons (var 6) (acons (var 7) anil)))) (sSeq (sSet 3 (newD (prsK (newL (compK 6 [8] (tgN 8) yesT (appN szT (acons (var 8) (acons (newL (itA lstL (acons (ixG (var 6) (var 8)) anil))) anil)))))))) (sSeq (sSet 4 (appN szT (acons (bin ix2 (var 7) (cst (.int 0))) (acons (newL (itA lstL (acons (bin ix2 (var 7) (cst (.int 1))) anil))) (acons (newD (cpyK (bin ix2 (var 7) (cst (.int 2))))) (acons (bin ix2 (var 7) (cst (.int 3))) anil)))))) (sSeq (sSet 5 (appU f_led_back (acons (var 6) (acons (var 4) anil)))) (sSeq (sIf (orT (notT (tst (appN isiN (acons (var 5) (acons (cst (.ty "tuple")) anil))))) (orT (tst (binW ne3 (var 5) (var 2))) (orT (tst (bin ne3 (var 4) (var 7))) (tst (bin ne3 (var 6) (var 3)))))) (sSeq (sRet (cst (.bl false))) sNil) sNil) (sSeq (sAppR (bin ix2 (var 5) (cst (.int 1))) (cst .non)) (sSeq (sPutG (bin ix2 (var 5) (cst (.int 2))) (cst (.str (Str.ofString "zz"))) (cst (.int 1))) (sSeq (sIf (orT (tst (bin ne3 (var 4) (var 7))) (tst (binW ne3 (appU f_led_back (acons (var 6) (acons (var 4) anil))) (var 2)))) (sSeq (sRet (cst (.bl false))) sNil) sNil) sNil)))))))))
def b_law : DS := (sSeq (sFor (itA rng1 (acons (appN maxN (acons (cst (.int 2)) (acons (appN minN (acons (appN lenN (acons (var 0) anil)) (acons (cst (.int 60)) anil))) anil))) anil)) (tgN 1) t1_law) (sSeq (sRet (cst (.bl true))) sNil))
def f_law : List U → Store → Rs U := runB 9 1 b_law
structure Tx (K : PySem.W.Frag) (w : World) (mg : Str → Option Value) : Prop where
  b_dict : mg "dict" = none
  b_int : mg "int" = none
  b_isinstance : mg "isinstance" = none
  b_len : mg "len" = none
  b_list : mg "list" = none
  b_max : mg "max" = none
  b_min : mg "min" = none
  b_range : mg "range" = none
  b_sorted : mg "sorted" = none
  b_tuple : mg "tuple" = none
section
variable {P : Program} {w : World} {K : PySem.W.Frag} {mg : Str → Option Value} {base : Heap} {xs : XS}
set_option maxHeartbeats 4000000 in
theorem ok_l_draw (T : Tx K w mg)   {f : Addr} {fd : FuncData} (F : Fun K "_law_draw" "_law_draw" s_l_draw f fd) : FnOk P w K mg base (L2.CX P w) 1 f fd [Str.ofString "_law_hand_here", Str.ofString "_law_many"] (spD K xs 2 (runB 3 2 b_l_draw)) :=
  fn_d F sc_l_draw fun cdv A outer sh H E hr => by
  have tk : Takes (cxOf (L2.CX P w) P w K mg base n_l_draw "_law_draw" (defScope s_l_draw) f cdv A outer sh H E) (fun cls d _ H => E cls d H) := takes_of rfl rfl rfl rfl
  have hp : PassesOwn (model P w) (A.deeper (PyProof.Rows.envOfC "_law_draw" (defScope s_l_draw) sh.heap.objs.size f cdv)) (PyProof.Rows.envOfC "_law_draw" (defScope s_l_draw) sh.heap.objs.size f cdv) (cxOf (L2.CX P w) P w K mg base n_l_draw "_law_draw" (defScope s_l_draw) f cdv A outer sh H E).xe := passes_of (X := cxOf (L2.CX P w) P w K mg base n_l_draw "_law_draw" (defScope s_l_draw) f cdv A outer sh H E) rfl
  exact (ss_cons (s_if (t_cmp o_gt (d_ixR (dv 0) d_int (fun _ _ => rfl)) d_int) (ss_cons (sset 2 sc_l_draw.nd (d_bin o_mod (d_ixR (dv 0) d_int (fun _ _ => rfl)) (dv 1)))
    (ss_cons (s_ixR (dv 0) d_int (d_bin o_fdiv (d_ixR (dv 0) d_int (fun _ _ => rfl)) (dv 1)))
    (ss_cons (s_ret (dv 2))
    ss_nil))) ss_nil)
    (ss_cons (s_ixR (dv 0) d_int (d_bin o_mod (d_bin o_add (d_bin o_mul (d_ixR (dv 0) d_int (fun _ _ => rfl)) d_int) d_int) d_int))
    (ss_cons (s_ret (d_bin o_mod (d_bin o_fdiv (d_bin o_mod (d_bin o_mul (d_ixR (dv 0) d_int (fun _ _ => rfl)) (d_ixR (dv 0) d_int (fun _ _ => rfl))) d_int) d_int) (dv 1)))
    ss_nil)))
set_option maxHeartbeats 4000000 in
theorem ok_l_place (T : Tx K w mg) (F_l_draw : Fn P w K mg base xs "_law_draw" 1 2 f_l_draw)  {f : Addr} {fd : FuncData} (F : Fun K "_law_place" "_law_place" s_l_place f fd) : FnOk P w K mg base (L2.CX P w) 2 f fd [Str.ofString "_law_hand_here", Str.ofString "_law_places"] (spD K xs 2 (runB 4 2 b_l_place)) :=
  fn_d F sc_l_place fun cdv A outer sh H E hr => by
  have tk : Takes (cxOf (L2.CX P w) P w K mg base n_l_place "_law_place" (defScope s_l_place) f cdv A outer sh H E) (fun cls d _ H => E cls d H) := takes_of rfl rfl rfl rfl
  have hp : PassesOwn (model P w) (A.deeper (PyProof.Rows.envOfC "_law_place" (defScope s_l_place) sh.heap.objs.size f cdv)) (PyProof.Rows.envOfC "_law_place" (defScope s_l_place) sh.heap.objs.size f cdv) (cxOf (L2.CX P w) P w K mg base n_l_place "_law_place" (defScope s_l_place) f cdv A outer sh H E).xe := passes_of (X := cxOf (L2.CX P w) P w K mg base n_l_place "_law_place" (defScope s_l_place) f cdv A outer sh H E) rfl
  exact (ss_cons (sset 2 sc_l_place.nd (d_new (l_sortD rfl (by rfl) T.b_sorted (dv 1))))
    (ss_cons (sset 3 sc_l_place.nd (d_ix (dv 2) (d_callF (x := "_law_draw") F_l_draw tk (hr.mono (by decide)) (by rfl) (a_cons (dv 0) (a_cons (d_callB (x := "len") c_len (by rfl) T.b_len bt_len (a_cons (dv 2) a_nil)) a_nil))) (fun _ _ => rfl)))
    (ss_cons (s_ret (d_tup (a_cons (dv 3) (a_cons (d_callF (x := "_law_draw") F_l_draw tk (hr.mono (by decide)) (by rfl) (a_cons (dv 0) (a_cons (d_callB (x := "len") c_len (by rfl) T.b_len bt_len (a_cons (d_ixG (units1 hr) (dv 1) (dv 3) (fun _ _ => rfl)) a_nil)) a_nil))) a_nil))))
    ss_nil)))
set_option maxHeartbeats 4000000 in
theorem ok_l_value (T : Tx K w mg) (F_l_draw : Fn P w K mg base xs "_law_draw" 1 2 f_l_draw) (F_l_place : Fn P w K mg base xs "_law_place" 2 2 f_l_place)  {f : Addr} {fd : FuncData} (F : Fun K "_law_value" "_law_value" s_l_value f fd) : FnOk P w K mg base (L2.CX P w) 3 f fd [Str.ofString "_law_hand_here", Str.ofString "_law_places"] (spD K xs 2 (runB 4 2 b_l_value)) :=
  fn_d F sc_l_value fun cdv A outer sh H E hr => by
  have tk : Takes (cxOf (L2.CX P w) P w K mg base n_l_value "_law_value" (defScope s_l_value) f cdv A outer sh H E) (fun cls d _ H => E cls d H) := takes_of rfl rfl rfl rfl
  have hp : PassesOwn (model P w) (A.deeper (PyProof.Rows.envOfC "_law_value" (defScope s_l_value) sh.heap.objs.size f cdv)) (PyProof.Rows.envOfC "_law_value" (defScope s_l_value) sh.heap.objs.size f cdv) (cxOf (L2.CX P w) P w K mg base n_l_value "_law_value" (defScope s_l_value) f cdv A outer sh H E).xe := passes_of (X := cxOf (L2.CX P w) P w K mg base n_l_value "_law_value" (defScope s_l_value) f cdv A outer sh H E) rfl
  exact (ss_cons (s_unp (d_callF (x := "_law_place") F_l_place tk (hr.mono (by decide)) (by rfl) (a_cons (dv 0) (a_cons (dv 1) a_nil))) (g_any rfl sc_l_value.nd (gc 2 (gc 3 .nil))))
    (ss_cons (s_ret (d_ix (d_lst (a_cons (dv 3) (a_cons (d_bin o_sub d_int (dv 3)) (a_cons (d_tup (a_cons d_str (a_cons (dv 2) (a_cons (d_tup (a_cons (dv 3) a_nil)) a_nil)))) (a_cons (d_tup (a_cons d_str (a_cons (dv 2) (a_cons (d_tup a_nil) a_nil)))) (a_cons (d_bin o_pow d_int d_int) a_nil)))))) (d_callF (x := "_law_draw") F_l_draw tk (hr.mono (by decide)) (by rfl) (a_cons (dv 0) (a_cons d_int a_nil))) (fun _ _ => rfl)))
    ss_nil))
set_option maxHeartbeats 4000000 in
theorem ok_l_words (T : Tx K w mg) (F_l_draw : Fn P w K mg base xs "_law_draw" 1 2 f_l_draw)  {f : Addr} {fd : FuncData} (F : Fun K "_law_words" "_law_words" s_l_words f fd) : FnOk P w K mg base (L2.CX P w) 2 f fd [Str.ofString "_law_hand_here", Str.ofString "_law_many"] (spD K xs 2 (runB 8 2 b_l_words)) :=
  fn_d F sc_l_words fun cdv A outer sh H E hr => by
  have tk : Takes (cxOf (L2.CX P w) P w K mg base n_l_words "_law_words" (defScope s_l_words) f cdv A outer sh H E) (fun cls d _ H => E cls d H) := takes_of rfl rfl rfl rfl
  have hp : PassesOwn (model P w) (A.deeper (PyProof.Rows.envOfC "_law_words" (defScope s_l_words) sh.heap.objs.size f cdv)) (PyProof.Rows.envOfC "_law_words" (defScope s_l_words) sh.heap.objs.size f cdv) (cxOf (L2.CX P w) P w K mg base n_l_words "_law_words" (defScope s_l_words) f cdv A outer sh H E).xe := passes_of (X := cxOf (L2.CX P w) P w K mg base n_l_words "_law_words" (defScope s_l_words) f cdv A outer sh H E) rfl
  exact (ss_cons (sset 2 sc_l_words.nd d_str)
    (ss_cons (sset 3 sc_l_words.nd (d_callF (x := "_law_draw") F_l_draw tk (hr.mono (by decide)) (by rfl) (a_cons (dv 0) (a_cons d_int a_nil))))
    (ss_cons (s_if (t_cmp (o_eq hr.units) (d_callF (x := "_law_draw") F_l_draw tk (hr.mono (by decide)) (by rfl) (a_cons (dv 0) (a_cons d_int a_nil))) d_int) (ss_cons (sset 5 sc_l_words.nd (d_join d_str (d_new (l_comp (own := [("_law_j", 7)]) rfl sc_l_words.nd (i_range1 rfl T.b_range (a_cons d_int a_nil)) (blkOk_by (N := n_l_words) (sc := defScope s_l_words) (by decide +kernel)) (hvs_N (by decide)) (fun _ _ _ _ _ => (gn 7 sc_l_words.nd)) (fun _ _ _ _ _ => ts_nil) (fun _ _ _ _ _ => (d_ix (dv 2) (d_bin o_mod (d_bin o_add (dv 3) (d_bin o_mul d_int (dv 7))) d_int) (fun _ _ => rfl)))))))
    (ss_cons (s_ret (d_new (l_comp (own := [("_law_k", 6)]) rfl sc_l_words.nd (i_range1 rfl T.b_range (a_cons (dv 1) a_nil)) (blkOk_by (N := n_l_words) (sc := defScope s_l_words) (by decide +kernel)) (hvs_N (by decide)) (fun _ _ _ _ _ => (gn 6 sc_l_words.nd)) (fun _ _ _ _ _ => ts_nil) (fun _ _ _ _ _ => (d_slice (dv 5) op_none (op_some (d_bin o_add d_int (dv 6))))))))
    ss_nil)) ss_nil)
    (ss_cons (sset 4 sc_l_words.nd (d_ix (d_lst (a_cons d_str (a_cons d_str (a_cons d_str (a_cons d_str a_nil))))) (d_callF (x := "_law_draw") F_l_draw tk (hr.mono (by decide)) (by rfl) (a_cons (dv 0) (a_cons d_int a_nil))) (fun _ _ => rfl)))
    (ss_cons (s_ret (d_new (l_comp (own := [("_law_k", 6)]) rfl sc_l_words.nd (i_range1 rfl T.b_range (a_cons (dv 1) a_nil)) (blkOk_by (N := n_l_words) (sc := defScope s_l_words) (by decide +kernel)) (hvs_N (by decide)) (fun _ _ _ _ _ => (gn 6 sc_l_words.nd)) (fun _ _ _ _ _ => ts_nil) (fun _ _ _ _ _ => (d_bin o_add (d_ix (dv 2) (d_bin o_mod (d_bin o_add (dv 3) (d_bin o_mul d_int (dv 6))) d_int) (fun _ _ => rfl)) (dv 4))))))
    ss_nil)))))
set_option maxHeartbeats 4000000 in
theorem ok_l_drawn (T : Tx K w mg) (F_l_draw : Fn P w K mg base xs "_law_draw" 1 2 f_l_draw) (F_l_place : Fn P w K mg base xs "_law_place" 2 2 f_l_place) (F_l_value : Fn P w K mg base xs "_law_value" 3 2 f_l_value) (F_l_words : Fn P w K mg base xs "_law_words" 2 2 f_l_words)  {f : Addr} {fd : FuncData} (F : Fun K "_law_drawn" "_law_drawn" s_l_drawn f fd) : FnOk P w K mg base (L2.CX P w) 4 f fd [Str.ofString "_law_hand_here"] (spD K xs 1 (runB 13 1 b_l_drawn)) :=
  fn_d F sc_l_drawn fun cdv A outer sh H E hr => by
  have tk : Takes (cxOf (L2.CX P w) P w K mg base n_l_drawn "_law_drawn" (defScope s_l_drawn) f cdv A outer sh H E) (fun cls d _ H => E cls d H) := takes_of rfl rfl rfl rfl
  have hp : PassesOwn (model P w) (A.deeper (PyProof.Rows.envOfC "_law_drawn" (defScope s_l_drawn) sh.heap.objs.size f cdv)) (PyProof.Rows.envOfC "_law_drawn" (defScope s_l_drawn) sh.heap.objs.size f cdv) (cxOf (L2.CX P w) P w K mg base n_l_drawn "_law_drawn" (defScope s_l_drawn) f cdv A outer sh H E).xe := passes_of (X := cxOf (L2.CX P w) P w K mg base n_l_drawn "_law_drawn" (defScope s_l_drawn) f cdv A outer sh H E) rfl
  exact (ss_cons (sset 1 sc_l_drawn.nd d_refD0)
    (ss_cons (s_for hp rfl (i_seq (d_callF (x := "_law_words") F_l_words tk (hr.mono (by decide)) (by rfl) (a_cons (dv 0) (a_cons (d_bin o_add d_int (d_callF (x := "_law_draw") F_l_draw tk (hr.mono (by decide)) (by rfl) (a_cons (dv 0) (a_cons d_int a_nil)))) a_nil)))) (gn 2 sc_l_drawn.nd) (b := t1_l_drawn) (ss_cons (s_putG (units1 hr) (dv 1) (dv 2) (d_new (l_comp (own := [("_law_row", 12)]) rfl sc_l_drawn.nd (i_range1 rfl T.b_range (a_cons (d_bin o_add d_int (d_callF (x := "_law_draw") F_l_draw tk (hr.mono (by decide)) (by rfl) (a_cons (dv 0) (a_cons d_int a_nil)))) a_nil)) (blkOk_by (N := n_l_drawn) (sc := defScope s_l_drawn) (by decide +kernel)) (hvs_N (by decide)) (fun _ _ _ _ _ => (gn 12 sc_l_drawn.nd)) (fun _ _ _ _ _ => ts_nil) (fun _ _ _ _ _ => (d_callF (x := "_law_draw") F_l_draw takes0 (hr.mono (by decide)) (by rfl) (a_cons (dv 0) (a_cons d_int a_nil)))))))
    ss_nil))
    (ss_cons (sset 3 sc_l_drawn.nd (d_callF (x := "_law_place") F_l_place tk (hr.mono (by decide)) (by rfl) (a_cons (dv 0) (a_cons (dv 1) a_nil))))
    (ss_cons (sset 4 sc_l_drawn.nd (d_ix (d_new (l_sortD rfl (by rfl) T.b_sorted (dv 1))) d_int (fun _ _ => rfl)))
    (ss_cons (sset 5 sc_l_drawn.nd (d_callF (x := "_law_value") F_l_value tk (hr.mono (by decide)) (by rfl) (a_cons (dv 0) (a_cons (dv 1) a_nil))))
    (ss_cons (sset 6 sc_l_drawn.nd (d_lst (a_cons (d_tup (a_cons d_str (a_cons (dv 5) a_nil))) (a_cons (d_bin o_add (d_tup (a_cons d_str (a_cons (dv 4) a_nil))) (dv 3)) (a_cons (d_bin o_add (d_tup (a_cons d_str a_nil)) (dv 3)) (a_cons (d_bin o_add (d_tup (a_cons d_str (a_cons d_str a_nil))) (dv 3)) a_nil))))))
    (ss_cons (sset 7 sc_l_drawn.nd (d_ix (dv 6) (d_callF (x := "_law_draw") F_l_draw tk (hr.mono (by decide)) (by rfl) (a_cons (dv 0) (a_cons d_int a_nil))) (fun _ _ => rfl)))
    (ss_cons (sown 8 sc_l_drawn.nd (l_lst a_nil))
    (ss_cons (s_for hp rfl (i_range1 rfl T.b_range (a_cons (d_callF (x := "_law_draw") F_l_draw tk (hr.mono (by decide)) (by rfl) (a_cons (dv 0) (a_cons d_int a_nil))) a_nil)) (gn 9 sc_l_drawn.nd) (b := t2_l_drawn) (ss_cons (sset 11 sc_l_drawn.nd (d_ix (d_lst (a_cons (d_tup (a_cons d_str (a_cons (dv 4) (a_cons (d_cmp (o_eq hr.units) (d_callF (x := "_law_draw") F_l_draw tk (hr.mono (by decide)) (by rfl) (a_cons (dv 0) (a_cons d_int a_nil))) d_int) a_nil)))) (a_cons (d_tup (a_cons d_str (a_cons (dv 4) (a_cons (d_callF (x := "_law_value") F_l_value tk (hr.mono (by decide)) (by rfl) (a_cons (dv 0) (a_cons (dv 1) a_nil))) a_nil)))) a_nil))) (d_callF (x := "_law_draw") F_l_draw tk (hr.mono (by decide)) (by rfl) (a_cons (dv 0) (a_cons d_int a_nil))) (fun _ _ => rfl)))
    (ss_cons (sapp 8 (d_bin o_add (dv 11) (d_callF (x := "_law_place") F_l_place tk (hr.mono (by decide)) (by rfl) (a_cons (dv 0) (a_cons (dv 1) a_nil)))))
    ss_nil)))
    (ss_cons (sset 10 sc_l_drawn.nd (d_newD (k_prs rfl rfl T.b_dict (d_new (l_comp (own := [("_law_name", 2)]) rfl sc_l_drawn.nd (i_seq (d_slice (d_new (l_sortD rfl (by rfl) T.b_sorted (dv 1))) op_none (op_some (d_callF (x := "_law_draw") F_l_draw tk (hr.mono (by decide)) (by rfl) (a_cons (dv 0) (a_cons d_int a_nil)))))) (blkOk_by (N := n_l_drawn) (sc := defScope s_l_drawn) (by decide +kernel)) (hvs_N (by decide)) (fun _ _ _ _ _ => (gn 2 sc_l_drawn.nd)) (fun _ _ _ _ _ => ts_nil) (fun _ _ _ _ _ => (d_tup (a_cons (dv 2) (a_cons (d_callF (x := "_law_value") F_l_value takes0 (hr.mono (by decide)) (by rfl) (a_cons (dv 0) (a_cons (dv 1) a_nil))) a_nil)))))))))
    (ss_cons (s_frz 8 (s_ret (d_tup (a_cons (dv 1) (a_cons (d_tup (a_cons (dv 7) (a_cons (dv 8) (a_cons (dv 10) (a_cons (d_bin o_add d_int (d_callF (x := "_law_draw") F_l_draw tk (hr.mono (by decide)) (by rfl) (a_cons (dv 0) (a_cons d_int a_nil)))) a_nil))))) a_nil)))))
    ss_nil)))))))))))
set_option maxHeartbeats 4000000 in
theorem ok_l_due (T : Tx K w mg)   {f : Addr} {fd : FuncData} (F : Fun K "_law_due" "_law_due" s_l_due f fd) : FnOk P w K mg base (L2.CX P w) 1 f fd [Str.ofString "_law_places", Str.ofString "_law_told"] (spD K xs 2 (runB 7 2 b_l_due)) :=
  fn_d F sc_l_due fun cdv A outer sh H E hr => by
  have tk : Takes (cxOf (L2.CX P w) P w K mg base n_l_due "_law_due" (defScope s_l_due) f cdv A outer sh H E) (fun cls d _ H => E cls d H) := takes_of rfl rfl rfl rfl
  have hp : PassesOwn (model P w) (A.deeper (PyProof.Rows.envOfC "_law_due" (defScope s_l_due) sh.heap.objs.size f cdv)) (PyProof.Rows.envOfC "_law_due" (defScope s_l_due) sh.heap.objs.size f cdv) (cxOf (L2.CX P w) P w K mg base n_l_due "_law_due" (defScope s_l_due) f cdv A outer sh H E).xe := passes_of (X := cxOf (L2.CX P w) P w K mg base n_l_due "_law_due" (defScope s_l_due) f cdv A outer sh H E) rfl
  exact (ss_cons (s_unp (dv 1) (g_any rfl sc_l_due.nd (gc 2 (gc 3 (gc 4 (gc 5 .nil))))))
    (ss_cons (s_if (t_cmp (o_ne hr.units) (d_ix (dv 2) d_int (fun _ _ => rfl)) d_str) (ss_cons (sset 2 sc_l_due.nd (d_bin o_add (d_slice (dv 2) op_none (op_some (d_neg d_int))) (d_tup (a_cons (d_ix (d_ixG (units1 hr) (dv 0) (d_ix (dv 2) (d_neg d_int) (fun _ _ => rfl)) (fun _ _ => rfl)) (d_ix (dv 2) (d_neg d_int) (fun _ _ => rfl)) (fun _ _ => rfl)) a_nil))))
    ss_nil) ss_nil)
    (ss_cons (s_ret (d_tup (a_cons (dv 2) (a_cons (d_new (l_comp (own := [("_law_event", 6)]) rfl sc_l_due.nd (i_seq (dv 3)) (blkOk_by (N := n_l_due) (sc := defScope s_l_due) (by decide +kernel)) (hvs_N (by decide)) (fun _ _ _ _ _ => (gn 6 sc_l_due.nd)) (fun _ _ _ _ _ => ts_nil) (fun _ _ _ _ _ => (d_bin o_add (d_slice (dv 6) op_none (op_some (d_neg d_int))) (d_tup (a_cons (d_ix (d_ixG (units1 hr) (dv 0) (d_ix (dv 6) (d_neg d_int) (fun _ _ => rfl)) (fun _ _ => rfl)) (d_ix (dv 6) (d_neg d_int) (fun _ _ => rfl)) (fun _ _ => rfl)) a_nil)))))) (a_cons (dv 4) (a_cons (dv 5) a_nil))))))
    ss_nil)))
set_option maxHeartbeats 4000000 in
theorem ok_l_hand (T : Tx K w mg)   {f : Addr} {fd : FuncData} (F : Fun K "_law_hand" "_law_hand" s_l_hand f fd) : FnOk P w K mg base (L2.CX P w) 1 f fd [Str.ofString "_law_script", Str.ofString "_law_k"] (spD K xs 2 (runB 4 2 b_l_hand)) :=
  fn_d F sc_l_hand fun cdv A outer sh H E hr => by
  have tk : Takes (cxOf (L2.CX P w) P w K mg base n_l_hand "_law_hand" (defScope s_l_hand) f cdv A outer sh H E) (fun cls d _ H => E cls d H) := takes_of rfl rfl rfl rfl
  have hp : PassesOwn (model P w) (A.deeper (PyProof.Rows.envOfC "_law_hand" (defScope s_l_hand) sh.heap.objs.size f cdv)) (PyProof.Rows.envOfC "_law_hand" (defScope s_l_hand) sh.heap.objs.size f cdv) (cxOf (L2.CX P w) P w K mg base n_l_hand "_law_hand" (defScope s_l_hand) f cdv A outer sh H E).xe := passes_of (X := cxOf (L2.CX P w) P w K mg base n_l_hand "_law_hand" (defScope s_l_hand) f cdv A outer sh H E) rfl
  exact (ss_cons (sset 2 sc_l_hand.nd (d_ix (d_bin o_add (d_slice (dv 0) (op_some (dv 1)) (op_some (d_bin o_add (dv 1) d_int))) (d_lst (a_cons d_int a_nil))) d_int (fun _ _ => rfl)))
    (ss_cons (sset 3 sc_l_hand.nd (d_bin o_mod (d_bin o_mul (d_bin o_add (d_bin o_add (d_bin o_mod (dv 2) d_int) (d_bin o_mul d_int (dv 1))) d_int) d_int) d_int))
    (ss_cons (s_ret (d_refL (l_lst (a_cons (d_bin o_mul (d_callT c_int (by rfl) T.b_int bt_int (a_cons (d_cmp o_ge (dv 2) (d_bin o_pow d_int d_int)) a_nil)) (dv 2)) (a_cons (dv 3) a_nil)))))
    ss_nil)))
set_option maxHeartbeats 4000000 in
theorem ok_place_back (T : Tx K w mg)   {f : Addr} {fd : FuncData} (F : Fun K "place_back" "place_back" s_place_back f fd) : FnOk P w K mg base (L2.CX P w) 1 f fd [Str.ofString "places", Str.ofString "told"] (spD K xs 2 (runB 2 2 b_place_back)) :=
  fn_d F sc_place_back fun cdv A outer sh H E hr => by
  have tk : Takes (cxOf (L2.CX P w) P w K mg base n_place_back "place_back" (defScope s_place_back) f cdv A outer sh H E) (fun cls d _ H => E cls d H) := takes_of rfl rfl rfl rfl
  have hp : PassesOwn (model P w) (A.deeper (PyProof.Rows.envOfC "place_back" (defScope s_place_back) sh.heap.objs.size f cdv)) (PyProof.Rows.envOfC "place_back" (defScope s_place_back) sh.heap.objs.size f cdv) (cxOf (L2.CX P w) P w K mg base n_place_back "place_back" (defScope s_place_back) f cdv A outer sh H E).xe := passes_of (X := cxOf (L2.CX P w) P w K mg base n_place_back "place_back" (defScope s_place_back) f cdv A outer sh H E) rfl
  exact (ss_cons (s_ret (d_bin o_add (d_slice (dv 1) op_none (op_some (d_neg d_int))) (d_tup (a_cons (d_ix (d_ixG (units1 hr) (dv 0) (d_ix (dv 1) (d_neg d_int) (fun _ _ => rfl)) (fun _ _ => rfl)) (d_ix (dv 1) (d_neg d_int) (fun _ _ => rfl)) (fun _ _ => rfl)) a_nil))))
    ss_nil)
set_option maxHeartbeats 4000000 in
theorem ok_led_back (T : Tx K w mg) (F_place_back : Fn P w K mg base xs "place_back" 1 2 f_place_back)  {f : Addr} {fd : FuncData} (F : Fun K "led_back" "led_back" s_led_back f fd) : FnOk P w K mg base (L2.CX P w) 2 f fd [Str.ofString "places", Str.ofString "told"] (spD K xs 2 (runB 7 2 b_led_back)) :=
  fn_d F sc_led_back fun cdv A outer sh H E hr => by
  have tk : Takes (cxOf (L2.CX P w) P w K mg base n_led_back "led_back" (defScope s_led_back) f cdv A outer sh H E) (fun cls d _ H => E cls d H) := takes_of rfl rfl rfl rfl
  have hp : PassesOwn (model P w) (A.deeper (PyProof.Rows.envOfC "led_back" (defScope s_led_back) sh.heap.objs.size f cdv)) (PyProof.Rows.envOfC "led_back" (defScope s_led_back) sh.heap.objs.size f cdv) (cxOf (L2.CX P w) P w K mg base n_led_back "led_back" (defScope s_led_back) f cdv A outer sh H E).xe := passes_of (X := cxOf (L2.CX P w) P w K mg base n_led_back "led_back" (defScope s_led_back) f cdv A outer sh H E) rfl
  exact (ss_cons (s_unp (dv 1) (g_any rfl sc_led_back.nd (gc 2 (gc 3 (gc 4 (gc 5 .nil))))))
    (ss_cons (s_if (t_cmp (o_ne hr.units) (d_ix (dv 2) d_int (fun _ _ => rfl)) d_str) (ss_cons (sset 2 sc_led_back.nd (d_callF (x := "place_back") F_place_back tk (hr.mono (by decide)) (by rfl) (a_cons (dv 0) (a_cons (dv 2) a_nil))))
    ss_nil) ss_nil)
    (ss_cons (s_ret (d_tup (a_cons (dv 2) (a_cons (d_refL (l_comp (own := [("one", 6)]) rfl sc_led_back.nd (i_seq (dv 3)) (blkOk_by (N := n_led_back) (sc := defScope s_led_back) (by decide +kernel)) (hvs_N (by decide)) (fun _ _ _ _ _ => (gn 6 sc_led_back.nd)) (fun _ _ _ _ _ => ts_nil) (fun _ _ _ _ _ => (d_callF (x := "place_back") F_place_back takes0 (hr.mono (by decide)) (by rfl) (a_cons (dv 0) (a_cons (dv 6) a_nil)))))) (a_cons (d_refDn (k_cpy rfl T.b_dict (dv 4))) (a_cons (dv 5) a_nil))))))
    ss_nil)))
set_option maxHeartbeats 4000000 in
theorem ok_law (T : Tx K w mg) (F_l_drawn : Fn P w K mg base xs "_law_drawn" 4 1 f_l_drawn) (F_l_due : Fn P w K mg base xs "_law_due" 1 2 f_l_due) (F_l_hand : Fn P w K mg base xs "_law_hand" 1 2 f_l_hand) (F_led_back : Fn P w K mg base xs "led_back" 2 2 f_led_back)  {f : Addr} {fd : FuncData} (F : Fun K "law" "law" s_law f fd) : FnOk P w K mg base (L2.CX P w) 5 f fd [Str.ofString "_law_script"] (spD K xs 1 (runB 9 1 b_law)) :=
  fn_d F sc_law fun cdv A outer sh H E hr => by
  have tk : Takes (cxOf (L2.CX P w) P w K mg base n_law "law" (defScope s_law) f cdv A outer sh H E) (fun cls d _ H => E cls d H) := takes_of rfl rfl rfl rfl
  have hp : PassesOwn (model P w) (A.deeper (PyProof.Rows.envOfC "law" (defScope s_law) sh.heap.objs.size f cdv)) (PyProof.Rows.envOfC "law" (defScope s_law) sh.heap.objs.size f cdv) (cxOf (L2.CX P w) P w K mg base n_law "law" (defScope s_law) f cdv A outer sh H E).xe := passes_of (X := cxOf (L2.CX P w) P w K mg base n_law "law" (defScope s_law) f cdv A outer sh H E) rfl
  exact (ss_cons (s_for hp rfl (i_range1 rfl T.b_range (a_cons (d_callB (x := "max") (c_max rfl) (by rfl) T.b_max bt_max (a_cons d_int (a_cons (d_callB (x := "min") (c_min rfl) (by rfl) T.b_min bt_min (a_cons (d_callB (x := "len") c_len (by rfl) T.b_len bt_len (a_cons (dv 0) a_nil)) (a_cons d_int a_nil))) a_nil))) a_nil)) (gn 1 sc_law.nd) (b := t1_law) (ss_cons (s_unp (d_zD (d_callF (x := "_law_drawn") F_l_drawn tk (hr.mono (by decide)) (by rfl) (a_cons (d_callF (x := "_law_hand") F_l_hand tk (hr.mono (by decide)) (by rfl) (a_cons (dv 0) (a_cons (dv 1) a_nil))) a_nil))) (g_any rfl sc_law.nd (gc 6 (gc 7 .nil))))
    (ss_cons (sset 2 sc_law.nd (d_callF (x := "_law_due") F_l_due tk (hr.mono (by decide)) (by rfl) (a_cons (dv 6) (a_cons (dv 7) a_nil))))
    (ss_cons (sset 3 sc_law.nd (d_newD (k_prs rfl rfl T.b_dict (d_new (l_compK (own := [("_law_name", 8)]) rfl sc_law.nd (i := 6) rfl (by first | exact Or.inl rfl | exact Or.inr (Or.inl rfl)) (blkOk_by (N := n_law) (sc := defScope s_law) (by decide +kernel)) (hvs_N (by decide)) (fun _ _ _ _ _ => (gn 8 sc_law.nd)) (fun _ _ _ _ _ => ts_nil) (fun _ _ _ _ _ => (d_tup (a_cons (dv 8) (a_cons (d_new (l_list rfl rfl T.b_list (a_cons (d_ixG (units1 hr) (dv 6) (dv 8) (fun _ _ => rfl)) a_nil))) a_nil)))))))))
    (ss_cons (sset 4 sc_law.nd (d_tup (a_cons (d_ix (dv 7) d_int (fun _ _ => rfl)) (a_cons (d_new (l_list rfl rfl T.b_list (a_cons (d_ix (dv 7) d_int (fun _ _ => rfl)) a_nil))) (a_cons (d_newD (k_cpy rfl T.b_dict (d_ix (dv 7) d_int (fun _ _ => rfl)))) (a_cons (d_ix (dv 7) d_int (fun _ _ => rfl)) a_nil))))))
    (ss_cons (sset 5 sc_law.nd (d_callF (x := "led_back") F_led_back tk (hr.mono (by decide)) (by rfl) (a_cons (dv 6) (a_cons (dv 4) a_nil))))
    (ss_cons (s_if (PW.pt (w_or (t_not (t_val (d_callB (x := "isinstance") c_isi (by rfl) T.b_isinstance bt_isinstance (a_cons (dv 5) (a_cons (d_ty (by rfl) T.b_tuple bt_tuple) a_nil))))) (w_or (t_cmpW (o_ne3 hr.units) (dv 5) (dv 2)) (w_or (t_cmp (o_ne3 hr.units) (dv 4) (dv 7)) (w_or1 (t_cmp (o_ne3 hr.units) (dv 6) (dv 3))))))) (ss_cons (s_ret d_bl)
    ss_nil) ss_nil)
    (ss_cons (s_appR (d_ix (dv 5) d_int (fun _ _ => rfl)) d_non)
    (ss_cons (s_putG (units1 hr) (d_ix (dv 5) d_int (fun _ _ => rfl)) d_str d_int)
    (ss_cons (s_if (PW.pt (w_or (t_cmp (o_ne3 hr.units) (dv 4) (dv 7)) (w_or1 (t_cmpW (o_ne3 hr.units) (d_callF (x := "led_back") F_led_back tk (hr.mono (by decide)) (by rfl) (a_cons (dv 6) (a_cons (dv 4) a_nil))) (dv 2))))) (ss_cons (s_ret d_bl)
    ss_nil) ss_nil)
    ss_nil))))))))))
    (ss_cons (s_ret d_bl)
    ss_nil))
end
set_option maxHeartbeats 0 in
theorem all_mk {l : PySem.W.OpenLaw} {w : World} {K : PySem.W.Frag} {h : Heap} {mg : Str → Option Value} {fa : Addr} {xs : XS} (X : K.In h) (G : h.Ns mainGlobals mg) (hfa : mg "law" = some (.ref fa))
    {f0 : Addr} {od0 an0 : Option Addr} {sl0 : Array (Option Value)} {oc0 kV0 dc0 pm0 cd0 ct0 : Value}
    (a0 : PySem.W.nsIn K mainGlobals "_law_draw" = some (some (.ref f0))) (l0 : K.lookup f0 = some ⟨oc0, od0, .func (PySem.W.fnOf "_law_draw" "_law_draw" (defArgs s_l_draw) (defBody s_l_draw) (defScope s_l_draw) .none kV0 dc0 pm0 an0 cd0 ct0), sl0⟩) (c0 : PySem.W.codeIn K cd0 "_law_draw" = true) (k0 : PySem.W.keepIn K (.ref f0) = true)
    {f1 : Addr} {od1 an1 : Option Addr} {sl1 : Array (Option Value)} {oc1 kV1 dc1 pm1 cd1 ct1 : Value}
    (a1 : PySem.W.nsIn K mainGlobals "_law_place" = some (some (.ref f1))) (l1 : K.lookup f1 = some ⟨oc1, od1, .func (PySem.W.fnOf "_law_place" "_law_place" (defArgs s_l_place) (defBody s_l_place) (defScope s_l_place) .none kV1 dc1 pm1 an1 cd1 ct1), sl1⟩) (c1 : PySem.W.codeIn K cd1 "_law_place" = true) (k1 : PySem.W.keepIn K (.ref f1) = true)
    {f2 : Addr} {od2 an2 : Option Addr} {sl2 : Array (Option Value)} {oc2 kV2 dc2 pm2 cd2 ct2 : Value}
    (a2 : PySem.W.nsIn K mainGlobals "_law_value" = some (some (.ref f2))) (l2 : K.lookup f2 = some ⟨oc2, od2, .func (PySem.W.fnOf "_law_value" "_law_value" (defArgs s_l_value) (defBody s_l_value) (defScope s_l_value) .none kV2 dc2 pm2 an2 cd2 ct2), sl2⟩) (c2 : PySem.W.codeIn K cd2 "_law_value" = true) (k2 : PySem.W.keepIn K (.ref f2) = true)
    {f3 : Addr} {od3 an3 : Option Addr} {sl3 : Array (Option Value)} {oc3 kV3 dc3 pm3 cd3 ct3 : Value}
    (a3 : PySem.W.nsIn K mainGlobals "_law_words" = some (some (.ref f3))) (l3 : K.lookup f3 = some ⟨oc3, od3, .func (PySem.W.fnOf "_law_words" "_law_words" (defArgs s_l_words) (defBody s_l_words) (defScope s_l_words) .none kV3 dc3 pm3 an3 cd3 ct3), sl3⟩) (c3 : PySem.W.codeIn K cd3 "_law_words" = true) (k3 : PySem.W.keepIn K (.ref f3) = true)
    {f4 : Addr} {od4 an4 : Option Addr} {sl4 : Array (Option Value)} {oc4 kV4 dc4 pm4 cd4 ct4 : Value}
    (a4 : PySem.W.nsIn K mainGlobals "_law_drawn" = some (some (.ref f4))) (l4 : K.lookup f4 = some ⟨oc4, od4, .func (PySem.W.fnOf "_law_drawn" "_law_drawn" (defArgs s_l_drawn) (defBody s_l_drawn) (defScope s_l_drawn) .none kV4 dc4 pm4 an4 cd4 ct4), sl4⟩) (c4 : PySem.W.codeIn K cd4 "_law_drawn" = true) (k4 : PySem.W.keepIn K (.ref f4) = true)
    {f5 : Addr} {od5 an5 : Option Addr} {sl5 : Array (Option Value)} {oc5 kV5 dc5 pm5 cd5 ct5 : Value}
    (a5 : PySem.W.nsIn K mainGlobals "_law_due" = some (some (.ref f5))) (l5 : K.lookup f5 = some ⟨oc5, od5, .func (PySem.W.fnOf "_law_due" "_law_due" (defArgs s_l_due) (defBody s_l_due) (defScope s_l_due) .none kV5 dc5 pm5 an5 cd5 ct5), sl5⟩) (c5 : PySem.W.codeIn K cd5 "_law_due" = true) (k5 : PySem.W.keepIn K (.ref f5) = true)
    {f6 : Addr} {od6 an6 : Option Addr} {sl6 : Array (Option Value)} {oc6 kV6 dc6 pm6 cd6 ct6 : Value}
    (a6 : PySem.W.nsIn K mainGlobals "_law_hand" = some (some (.ref f6))) (l6 : K.lookup f6 = some ⟨oc6, od6, .func (PySem.W.fnOf "_law_hand" "_law_hand" (defArgs s_l_hand) (defBody s_l_hand) (defScope s_l_hand) .none kV6 dc6 pm6 an6 cd6 ct6), sl6⟩) (c6 : PySem.W.codeIn K cd6 "_law_hand" = true) (k6 : PySem.W.keepIn K (.ref f6) = true)
    {f7 : Addr} {od7 an7 : Option Addr} {sl7 : Array (Option Value)} {oc7 kV7 dc7 pm7 cd7 ct7 : Value}
    (a7 : PySem.W.nsIn K mainGlobals "place_back" = some (some (.ref f7))) (l7 : K.lookup f7 = some ⟨oc7, od7, .func (PySem.W.fnOf "place_back" "place_back" (defArgs s_place_back) (defBody s_place_back) (defScope s_place_back) .none kV7 dc7 pm7 an7 cd7 ct7), sl7⟩) (c7 : PySem.W.codeIn K cd7 "place_back" = true) (k7 : PySem.W.keepIn K (.ref f7) = true)
    {f8 : Addr} {od8 an8 : Option Addr} {sl8 : Array (Option Value)} {oc8 kV8 dc8 pm8 cd8 ct8 : Value}
    (a8 : PySem.W.nsIn K mainGlobals "led_back" = some (some (.ref f8))) (l8 : K.lookup f8 = some ⟨oc8, od8, .func (PySem.W.fnOf "led_back" "led_back" (defArgs s_led_back) (defBody s_led_back) (defScope s_led_back) .none kV8 dc8 pm8 an8 cd8 ct8), sl8⟩) (c8 : PySem.W.codeIn K cd8 "led_back" = true) (k8 : PySem.W.keepIn K (.ref f8) = true)
    {f9 : Addr} {od9 an9 : Option Addr} {sl9 : Array (Option Value)} {oc9 kV9 dc9 pm9 cd9 ct9 : Value}
    (a9 : PySem.W.nsIn K mainGlobals "law" = some (some (.ref f9))) (l9 : K.lookup f9 = some ⟨oc9, od9, .func (PySem.W.fnOf "law" "law" (defArgs s_law) (defBody s_law) (defScope s_law) .none kV9 dc9 pm9 an9 cd9 ct9), sl9⟩) (c9 : PySem.W.codeIn K cd9 "law" = true) (k9 : PySem.W.keepIn K (.ref f9) = true)
    (z_dict : PySem.W.nsIn K mainGlobals "dict" = some none)
    (z_int : PySem.W.nsIn K mainGlobals "int" = some none)
    (z_isinstance : PySem.W.nsIn K mainGlobals "isinstance" = some none)
    (z_len : PySem.W.nsIn K mainGlobals "len" = some none)
    (z_list : PySem.W.nsIn K mainGlobals "list" = some none)
    (z_max : PySem.W.nsIn K mainGlobals "max" = some none)
    (z_min : PySem.W.nsIn K mainGlobals "min" = some none)
    (z_range : PySem.W.nsIn K mainGlobals "range" = some none)
    (z_sorted : PySem.W.nsIn K mainGlobals "sorted" = some none)
    (z_tuple : PySem.W.nsIn K mainGlobals "tuple" = some none)
    : ∃ fd : FuncData, (∀ (s : Shared) (v : Value), BindsTo s fd ⟨[v], []⟩ [("_law_script", v)]) ∧ ∀ base : Heap, K.In base → base.Ns mainGlobals mg → FnOk l.prog w K mg base (L2.CX l.prog w) 5 fa fd [Str.ofString "_law_script"] (spD K xs 1 f_law) := by
  have T : Tx K w mg := ⟨PySem.W.mg_none_of X G z_dict, PySem.W.mg_none_of X G z_int, PySem.W.mg_none_of X G z_isinstance, PySem.W.mg_none_of X G z_len, PySem.W.mg_none_of X G z_list, PySem.W.mg_none_of X G z_max, PySem.W.mg_none_of X G z_min, PySem.W.mg_none_of X G z_range, PySem.W.mg_none_of X G z_sorted, PySem.W.mg_none_of X G z_tuple⟩
  have e := hfa.symm.trans (PySem.W.mg_of X G a9)
  cases e
  have FL := fun_mk (st := s_law) l9 c9 k9
  refine ⟨PySem.W.fnOf "law" "law" (defArgs s_law) (defBody s_law) (defScope s_law) .none kV9 dc9 pm9 an9 cd9 ct9, fun s v => .of_eq rfl, fun base _ _ => ?_⟩
  have F_l_draw : Fn l.prog w K mg base xs "_law_draw" 1 2 f_l_draw := fn_mk X G a0 l0 c0 k0 sc_l_draw (fun us hl => match us, hl with | [_, _], _ => rfl) rfl rfl (fun f fd F => ok_l_draw T  F)
  have F_l_place : Fn l.prog w K mg base xs "_law_place" 2 2 f_l_place := fn_mk X G a1 l1 c1 k1 sc_l_place (fun us hl => match us, hl with | [_, _], _ => rfl) rfl rfl (fun f fd F => ok_l_place T F_l_draw F)
  have F_l_value : Fn l.prog w K mg base xs "_law_value" 3 2 f_l_value := fn_mk X G a2 l2 c2 k2 sc_l_value (fun us hl => match us, hl with | [_, _], _ => rfl) rfl rfl (fun f fd F => ok_l_value T F_l_draw F_l_place F)
  have F_l_words : Fn l.prog w K mg base xs "_law_words" 2 2 f_l_words := fn_mk X G a3 l3 c3 k3 sc_l_words (fun us hl => match us, hl with | [_, _], _ => rfl) rfl rfl (fun f fd F => ok_l_words T F_l_draw F)
  have F_l_drawn : Fn l.prog w K mg base xs "_law_drawn" 4 1 f_l_drawn := fn_mk X G a4 l4 c4 k4 sc_l_drawn (fun us hl => match us, hl with | [_], _ => rfl) rfl rfl (fun f fd F => ok_l_drawn T F_l_draw F_l_place F_l_value F_l_words F)
  have F_l_due : Fn l.prog w K mg base xs "_law_due" 1 2 f_l_due := fn_mk X G a5 l5 c5 k5 sc_l_due (fun us hl => match us, hl with | [_, _], _ => rfl) rfl rfl (fun f fd F => ok_l_due T  F)
  have F_l_hand : Fn l.prog w K mg base xs "_law_hand" 1 2 f_l_hand := fn_mk X G a6 l6 c6 k6 sc_l_hand (fun us hl => match us, hl with | [_, _], _ => rfl) rfl rfl (fun f fd F => ok_l_hand T  F)
  have F_place_back : Fn l.prog w K mg base xs "place_back" 1 2 f_place_back := fn_mk X G a7 l7 c7 k7 sc_place_back (fun us hl => match us, hl with | [_, _], _ => rfl) rfl rfl (fun f fd F => ok_place_back T  F)
  have F_led_back : Fn l.prog w K mg base xs "led_back" 2 2 f_led_back := fn_mk X G a8 l8 c8 k8 sc_led_back (fun us hl => match us, hl with | [_, _], _ => rfl) rfl rfl (fun f fd F => ok_led_back T F_place_back F)
  exact ok_law T F_l_drawn F_l_due F_l_hand F_led_back FL
end T_allcallers_k40_led_back
namespace C
open PySem L2 D
def b_l_hand : DS := (sSeq (sSet 2 (bin ix2 (bin add2 (slD (var 0) (soO (var 1)) (soO (bin add2 (var 1) (cst (.int 1))))) (appN szL (acons (cst (.int 0)) anil))) (cst (.int 0)))) (sSeq (sSet 3 (bin mod2 (bin mul2 (bin add2 (bin add2 (bin mod2 (var 2) (cst (.int 2147483647))) (bin mul2 (cst (.int 7919)) (var 1))) (cst (.int 1))) (cst (.int 48271))) (cst (.int 2147483629)))) (sSeq (sRet (refL (szDL (acons (bin mul2 (appN intN (acons (bin ge2 (var 2) (bin pow2 (cst (.int 10)) (cst (.int 18)))) anil)) (var 2)) (acons (var 3) anil))))) sNil)))
def f_l_hand : List U → Store → Rs U := runB 4 2 b_l_hand
def b_l_draw : DS := (sSeq (sIf (tst (bin gt2 (ixR (var 0) (cst (.int 0))) (cst (.int 0)))) (sSeq (sSet 2 (bin mod2 (ixR (var 0) (cst (.int 0))) (var 1))) (sSeq (sIxR (var 0) (cst (.int 0)) (bin fdiv2 (ixR (var 0) (cst (.int 0))) (var 1))) (sSeq (sRet (var 2)) sNil))) sNil) (sSeq (sIxR (var 0) (cst (.int 1)) (bin mod2 (bin add2 (bin mul2 (ixR (var 0) (cst (.int 1))) (cst (.int 48271))) (cst (.int 11))) (cst (.int 2147483647)))) (sSeq (sRet (bin mod2 (bin fdiv2 (bin mod2 (bin mul2 (ixR (var 0) (cst (.int 1))) (ixR (var 0) (cst (.int 1)))) (cst (.int 2147483629))) (cst (.int 64))) (var 1))) sNil)))
def f_l_draw : List U → Store → Rs U := runB 3 2 b_l_draw
/-- a hand: what is left of a cell, and a seed -/
def HandOb (ob : Ob) : Prop := ∃ a b : Int, ob = .lst [.int a, .int b] ∧ 0 ≤ a ∧ 0 ≤ b ∧ b < 2147483647
theorem draw_ok (n : Nat) (m : Int) (hm : 0 < m) (hm2 : m < 1073741824) (st : Store) (ob : Ob) (h : st[n]? = some ob) (ho : HandOb ob) :
    ∃ r ob', f_l_draw [.ref n, .int m] st = .ok (.int r) (st.set n ob') ∧ 0 ≤ r ∧ r < m ∧ HandOb ob' := by
  obtain ⟨a, b, rfl, ha, hb, hb2⟩ := ho
  have hn : n < st.length := (List.getElem?_eq_some_iff.mp h).1
  have gs : ∀ ob : Ob, (st.set n ob)[n]? = some ob := fun ob => List.getElem?_set_self hn
  clear hn
  have i0 : ixN 2 0 = some 0 := rfl
  have i1 : ixN 2 1 = some 1 := rfl
  have a0 : ∀ x y : U, atI [x, y] 0 = some x := fun _ _ => rfl
  have a1 : ∀ x y : U, atI [x, y] 1 = some y := fun _ _ => rfl
  have hmo : ∀ x : Int, mod2 (.int x) (.int m) = some (.int (x % m)) := fun x => by
    show (if _ then _ else _) = _
    rw [if_pos hm]
  have hfd : fdiv2 (.int a) (.int m) = some (.int (a / m)) := by
    show (if _ then _ else _) = _
    rw [if_pos ⟨hm, hm2⟩]
  unfold f_l_draw b_l_draw
  by_cases q : 0 < a
  · refine ⟨a % m, .lst [.int (a / m), .int b], ?_, Int.emod_nonneg _ (by omega), Int.emod_lt_of_pos _ hm, a / m, b, rfl, Int.ediv_nonneg ha (by omega), hb, hb2⟩
    simp [h, a0, q, hmo, hfd, i0]
  · obtain ⟨c, hc⟩ : ∃ c, c = (b * 48271 + 11) % 2147483647 := ⟨_, rfl⟩
    have c0 : 0 ≤ c := by rw [hc]; exact Int.emod_nonneg _ (by decide)
    have c1 : c < 2147483647 := by rw [hc]; exact Int.emod_lt_of_pos _ (by decide)
    have s1 : smallI b = true := by unfold smallI; simp; omega
    have s2 : smallI c = true := by unfold smallI; simp; omega
    refine ⟨c * c % 2147483629 / 64 % m, .lst [.int a, .int c], ?_, Int.emod_nonneg _ (by omega), Int.emod_lt_of_pos _ hm, a, c, rfl, ha, c0, c1⟩
    simp [h, a0, a1, q, hmo, i1, s1, ← hc, s2, gs]
theorem pow18' : pow2 (.int 10) (.int 18) = some (.int 1000000000000000000) := by simp [pow2]
theorem hand_ok (ns : List Int) (k : Nat) (hk : k ≤ 1000000) (st : Store) : ∃ ob, f_l_hand [.scr ns, .int (k : Int)] st = .ok (.ref st.length) (st ++ [ob]) ∧ HandOb ob := by
  obtain ⟨c, hc⟩ : ∃ c : Int, c = ((ns.drop k).take 1 ++ [0]).headD 0 := ⟨_, rfl⟩
  obtain ⟨sd, hsd⟩ : ∃ s : Int, s = (c % 2147483647 + 7919 * (k : Int) + 1) * 48271 % 2147483629 := ⟨_, rfl⟩
  refine ⟨.lst [.int (if 1000000000000000000 ≤ c then c else 0), .int sd], ?_, _, _, rfl, ?_, by rw [hsd]; exact Int.emod_nonneg _ (by decide), by rw [hsd]; have := Int.emod_lt_of_pos ((c % 2147483647 + 7919 * (k : Int) + 1) * 48271) (show (0 : Int) < 2147483629 by decide); omega⟩
  · obtain ⟨X, hX⟩ : ∃ X, X = (ns.drop k).take 1 := ⟨_, rfl⟩
    have lX : X.length ≤ 1 := by rw [hX, List.length_take]; omega
    have cm : cutL ns (some (k : Int)) (some ((k : Int) + 1)) = X := by
      have e : ((k : Int) + 1) = ((k + 1 : Nat) : Int) := rfl
      rw [e, cutL_mid', hX]
      congr 1
      omega
    have ad : add2 (.lst (X.map U.int)) (.lst [.int 0]) = some (.lst (X.map U.int ++ [.int 0])) := by
      show (if _ then _ else _) = _
      rw [if_pos (by rw [sizeLine_eq, List.length_map]; simp; omega)]
    have ix : ix2 (.lst (X.map U.int ++ [.int 0])) (.int 0) = some (.int c) := by
      rw [hc, ← hX]
      cases X with
      | nil => rfl
      | cons x t => simp
    have s1 : smallI (c % 2147483647 + 7919 * (k : Int) + 1) = true := by
      have a1 := Int.emod_nonneg c (show (2147483647 : Int) ≠ 0 by decide)
      have a2 := Int.emod_lt_of_pos c (show (0 : Int) < 2147483647 by decide)
      unfold smallI
      simp
      omega
    have s2 : smallI (k : Int) = true := by unfold smallI; simp; omega
    have s0 : smallI 1 = true := by decide
    have s3 : smallI 0 = true := by decide
    unfold f_l_hand b_l_hand
    generalize hA : U.lst (X.map U.int) = A at *
    by_cases q : 1000000000000000000 ≤ c
    · simp [cm, hA, ad, ix, pow18', s1, s2, ← hsd, q, s0, -add_lsts]
    · simp [cm, hA, ad, ix, pow18', s1, s2, ← hsd, q, s3, -add_lsts]
  · split <;> omega
end C
namespace G1
open PySem L2 D C
def lmS : List Str := [Str.ofString "ask", Str.ofString "b", Str.ofString "gate", Str.ofString "open", Str.ofString "pay", Str.ofString "w", Str.ofString "x", Str.ofString "zz"]
end G1
namespace G1
open PySem L2 D C
structure Hd where
  name : Str
  own : List Str
  params : List Str
def Hd.u (h : Hd) : U := .tup [.str h.name, tS h.own, tS h.params]
end G1
namespace G1
open PySem L2 D C
def preOk : Row → Bool
  | .skip a k => isWordS a && decide (0 ≤ k)
  | .over k => decide (0 ≤ k)
  | .ask w k => isWordS w && decide (0 ≤ k)
  | r => r.ok
def Pre (r : Row) : Prop := preOk r = true ∧ ∀ w ∈ r.leaves, w ∈ lmS
def Steps (o : Rs U) (st : Store) : Prop := ∃ rows : List Row, o = .ok (.lst (rows.map Row.u)) st ∧ 1 ≤ rows.length ∧ rows.length ≤ 2 ∧ ∀ r ∈ rows, Pre r
theorem Steps.one {o : Rs U} {st : Store} (r : Row) (h : o = .ok (.lst [r.u]) st) (hp : Pre r) : Steps o st := ⟨[r], h, by simp, by simp, fun x hx => by rw [List.mem_singleton] at hx; subst hx; exact hp⟩
/-- a row as it is put at its place -/
def put (behind : Nat) (r : Row) : Row := match r with
  | .skip a k => if behind = 0 then .on else .skip a (1 + k % (min behind 3 : Nat))
  | .over k => if behind = 0 then .on else .over (1 + k % (min behind 3 : Nat))
  | .ask w k => if behind = 0 then .on else .ask w (1 + k % (min behind 3 : Nat))
  | r => r
end G1
namespace G2
open PySem L2 D C
/-- the hand at n has been drawn from; all else of the store stands -/
structure Keep (n : Nat) (st st' : Store) : Prop where
  len : st'.length = st.length
  oth : ∀ m, m ≠ n → st'[m]? = st[m]?
  hand : ∃ ob, st'[n]? = some ob ∧ HandOb ob
def Hs (n : Nat) (st : Store) : Prop := ∃ ob, st[n]? = some ob ∧ HandOb ob
theorem Keep.refl {n : Nat} {st : Store} (h : Hs n st) : Keep n st st := ⟨rfl, fun _ _ => rfl, h⟩
theorem Keep.hs {n : Nat} {st st' : Store} (k : Keep n st st') : Hs n st' := k.hand
theorem Keep.trans {n : Nat} {st st1 st2 : Store} (a : Keep n st st1) (b : Keep n st1 st2) : Keep n st st2 := ⟨by rw [b.len, a.len], fun m h => by rw [b.oth m h, a.oth m h], b.hand⟩
def Dr {A : Type} (n : Nat) (st : Store) (P : A → Prop) (r : Rs A) : Prop := ∃ a st', r = .ok a st' ∧ Keep n st st' ∧ P a
section
variable {A B : Type} {n : Nat} {st : Store}
theorem Dr.ok {P : A → Prop} {a : A} (h : Hs n st) (p : P a) : Dr n st P (.ok a st) := ⟨a, st, rfl, .refl h, p⟩
theorem Dr.of {P : A → Prop} {r : Rs A} {a : A} (h : Hs n st) (e : r = .ok a st) (p : P a) : Dr n st P r := by rw [e]; exact .ok h p
theorem Dr.imp {P Q : A → Prop} {r : Rs A} (d : Dr n st P r) (h : ∀ a, P a → Q a) : Dr n st Q r := let ⟨a, s, e, k, p⟩ := d; ⟨a, s, e, k, h a p⟩
theorem Dr.pre {P : A → Prop} {r : Rs A} {st0 : Store} (k : Keep n st0 st) (d : Dr n st P r) : Dr n st0 P r := let ⟨a, s, e, k2, p⟩ := d; ⟨a, s, e, k.trans k2, p⟩
theorem Dr.bind {P : A → Prop} {Q : B → Prop} {r : Rs A} {k : A → Store → Rs B} (d : Dr n st P r) (h : ∀ a st', Keep n st st' → P a → Dr n st' Q (k a st')) : Dr n st Q (r.bind k) := by
  obtain ⟨a, s, rfl, k1, p⟩ := d
  exact (h a s k1 p).pre k1
theorem Dr.out {P : A → Prop} {Q : U → Prop} {r : Rs A} {env : D.Env} {k : A → Store → Out} {rest : DS} (d : Dr n st P r) (h : ∀ a st', Keep n st st' → P a → Dr n st' Q (fin ((k a st').seq rest))) : Dr n st Q (fin ((r.out env k).seq rest)) := by
  obtain ⟨a, s, rfl, k1, p⟩ := d
  exact (h a s k1 p).pre k1
end
section
variable {n : Nat} {st : Store} {env : D.Env} {P : U → Prop}
/-- one draw -/
theorem draw (h : Hs n st) {m : Int} (hm : 0 < m) (hm2 : m < 1073741824) : Dr n st (fun u => ∃ r : Nat, u = .int (r : Int) ∧ (r : Int) < m) (f_l_draw [.ref n, .int m] st) := by
  obtain ⟨ob, e, ho⟩ := h
  obtain ⟨r, ob', e1, h0, h1, ho'⟩ := draw_ok n m hm hm2 st ob e ho
  obtain ⟨k, rfl⟩ := Int.eq_ofNat_of_zero_le h0
  have hn : n < st.length := (List.getElem?_eq_some_iff.mp e).1
  exact ⟨_, _, e1, ⟨List.length_set .., fun m h => List.getElem?_set_ne (Ne.symm h), ob', List.getElem?_set_self hn, ho'⟩, k, rfl, h1⟩
def DrE (n : Nat) (st : Store) (env : D.Env) (P : U → Prop) (e : DE) : Prop := Dr n st P (e env st)
theorem e_of {u : U} {e : DE} (h : Hs n st) (q : e env st = .ok u st) (p : P u) : DrE n st env P e := Dr.of h q p
theorem e_drawV {v : DE} {m : Int} (h : Hs n st) (h0 : ∀ st', var 0 env st' = .ok (.ref n) st') (hv : ∀ st', v env st' = .ok (.int m) st') (hm : 0 < m) (hm2 : m < 1073741824) : DrE n st env (fun u => ∃ r : Nat, u = .int (r : Int) ∧ (r : Int) < m) (appU f_l_draw (acons (var 0) (acons v anil))) := by
  show Dr n st _ (appU f_l_draw (acons (var 0) (acons v anil)) env st)
  simp only [appU_ap, acons_ap, anil_ap, h0, hv, bind_ok]
  exact draw h hm hm2
theorem e_bin {Q R : U → Prop} {g : U → U → Option U} {a b : DE} (ha : DrE n st env Q a) (hb : ∀ u st', Keep n st st' → Q u → DrE n st' env R b) (hg : ∀ u v, Q u → R v → ∃ w, g u v = some w ∧ P w) : DrE n st env P (bin g a b) := by
  show Dr n st P (bin g a b env st)
  rw [bin_ap]
  refine Dr.bind ha fun u s1 k1 q => Dr.bind (hb u s1 k1 q) fun v s2 k2 r => ?_
  obtain ⟨w, e, p⟩ := hg u v q r
  rw [e]
  exact .ok k2.hs p
def DrF (n : Nat) (st : Store) (env : D.Env) (P : U → Prop) (s : DS) : Prop := Dr n st P (fin (s env st))
theorem f_set {Q : U → Prop} {i : Nat} {f : DE} {rest : DS} (h : DrE n st env Q f) (k : ∀ u st', Keep n st st' → Q u → DrF n st' (env.set i (.val u)) P rest) : DrF n st env P (sSeq (sSet i f) rest) := by
  show Dr n st P (fin (sSeq (sSet i f) rest env st))
  rw [sSeq_ap, sSet_ap]
  exact Dr.out h fun u s1 k1 q => k u s1 k1 q
theorem f_ret {f : DE} {rest : DS} (h : DrE n st env P f) : DrF n st env P (sSeq (sRet f) rest) := by
  show Dr n st P (fin (sSeq (sRet f) rest env st))
  rw [sSeq_ap, sRet_ap]
  exact Dr.out h fun u s1 k1 q => .ok k1.hs q
/-- if c: body that ends -/
theorem f_ifB {c : DT} {f rest : DS} (hc : Dr n st (fun _ : Bool => True) (c env st)) (k : ∀ b st', Keep n st st' → c env st = .ok b st' → if b = true then ∃ u s, f env st' = .rt u s ∧ Keep n st' s ∧ P u else DrF n st' env P rest) : DrF n st env P (sSeq (sIf c f sNil) rest) := by
  obtain ⟨b, s1, e, k1, _⟩ := hc
  have h := k b s1 k1 e
  show Dr n st P (fin (sSeq (sIf c f sNil) rest env st))
  rw [sSeq_ap, sIf_ap, e, out_ok]
  cases b with
  | true =>
    rw [if_pos rfl] at h ⊢
    obtain ⟨u, s2, e2, k2, p⟩ := h
    rw [e2]
    exact ⟨u, s2, rfl, k1.trans k2, p⟩
  | false =>
    rw [if_neg Bool.false_ne_true] at h ⊢
    exact Dr.pre k1 h
end
theorem comp_dr {T : Type} {n : Nat} {t : Tg} {e : DE} {env : D.Env} {f : T → U} {P : U → Prop} : ∀ (l : List T) (st : Store), Hs n st → (∀ x ∈ l, ∃ a, t (f x) = some a ∧ ∀ st, Hs n st → Dr n st P (e (setE env a) st)) → Dr n st (fun us => us.length = l.length ∧ ∀ u ∈ us, P u) (compL t yesT e (l.map f) env st)
  | [], st, h, _ => Dr.of h (comp_nil ..) ⟨rfl, fun _ z => nomatch z⟩
  | x :: l, st, h, hs => by
    obtain ⟨a, e1, e2⟩ := hs x (List.mem_cons_self ..)
    rw [List.map_cons, comp_cons, e1]
    simp only [yesT_ap, bind_ok, if_true]
    refine Dr.bind (e2 st h) fun u s1 k1 p => Dr.bind (comp_dr l s1 k1.hs fun y hy => hs y (List.mem_cons_of_mem _ hy)) fun us s2 k2 q => .ok k2.hs ⟨by simp [q.1], fun v hv => ?_⟩
    rcases List.mem_cons.mp hv with rfl | hv
    · exact p
    · exact q.2 v hv
end G2
namespace C
open PySem L2 D
theorem str_ix (s : Str) (k : Nat) (h : k < s.length) (hz : s.length ≤ 16777216) : ix2 (.str s) (.int (k : Int)) = some (.str ⟨#[s.cps.getD k 0]⟩) := by
  have hk : k < s.cps.size := h
  show (if s.length ≤ sizeLine then (atI s.cps.toList (k : Int)).map fun c => U.str ⟨#[c]⟩ else none) = _
  rw [if_pos (by rw [sizeLine_val]; exact hz), atI_cast]
  simp [hk, Array.getD]
end C
namespace G2
open PySem L2 D C
def b_l_words : DS := (sSeq (sSet 2 (cst (.str (Str.ofString "abcdefghijklmnopqrstuvwxyz")))) (sSeq (sSet 3 (appU f_l_draw (acons (var 0) (acons (cst (.int 26)) anil)))) (sSeq (sIf (tst (bin eq2 (appU f_l_draw (acons (var 0) (acons (cst (.int 3)) anil))) (cst (.int 0)))) (sSeq (sSet 5 (joinD (cst (.str (Str.ofString ""))) (newL (compD (itA rng1 (acons (cst (.int 8)) anil)) [7] (tgN 7) yesT (bin ix2 (var 2) (bin mod2 (bin add2 (var 3) (bin mul2 (cst (.int 5)) (var 7))) (cst (.int 26)))))))) (sSeq (sRet (newL (compD (itA rng1 (acons (var 1) anil)) [6] (tgN 6) yesT (slD (var 5) noO (soO (bin add2 (cst (.int 1)) (var 6))))))) sNil)) sNil) (sSeq (sSet 4 (bin ix2 (appN szL (acons (cst (.str (Str.ofString ""))) (acons (cst (.str (Str.ofString "o"))) (acons (cst (.str (Str.ofString "mine"))) (acons (cst (.str (Str.ofString "zzzzzzz"))) anil))))) (appU f_l_draw (acons (var 0) (acons (cst (.int 4)) anil))))) (sSeq (sRet (newL (compD (itA rng1 (acons (var 1) anil)) [6] (tgN 6) yesT (bin add2 (bin ix2 (var 2) (bin mod2 (bin add2 (var 3) (bin mul2 (cst (.int 3)) (var 6))) (cst (.int 26)))) (var 4))))) sNil)))))
def f_l_words : List U → Store → Rs U := runB 8 2 b_l_words
def abc : Str := Str.ofString "abcdefghijklmnopqrstuvwxyz"
def ch (i : Nat) : Str := ⟨#[97 + i]⟩
theorem abc_get : ∀ k < 26, abc.cps.getD k 0 = 97 + k := by decide +kernel
theorem abc_at (k : Nat) (h : k < 26) : ix2 (.str abc) (.int (k : Int)) = some (.str (ch k)) := by
  rw [str_ix abc k (Nat.lt_of_lt_of_le h (by decide +kernel)) (by decide +kernel), abc_get k h]
  rfl
theorem let_mem : ∀ i < 26, 97 + i ∈ letters := by decide +kernel
theorem str_ext {x y : Str} (h : x.cps.toList = y.cps.toList) : x = y := by
  obtain ⟨⟨a⟩⟩ := x
  obtain ⟨⟨b⟩⟩ := y
  have h : a = b := h
  rw [h]
def wA (f : Nat) : List Nat := (List.range 8).map fun j => 97 + (f + 5 * j) % 26
def wordA (f k : Nat) : Str := ⟨((wA f).take (1 + k)).toArray⟩
def wordB (f : Nat) (tail : Str) (k : Nat) : Str := ch ((f + 3 * k) % 26) ++ tail
theorem isWord_list (l : List Nat) (h1 : 1 ≤ l.length) (h2 : l.length ≤ 8) (h3 : ∀ c ∈ l, c ∈ letters) : isWordS ⟨l.toArray⟩ = true := by
  unfold isWordS
  have e : (⟨l.toArray⟩ : Str).length = l.length := by simp [Str.length]
  rw [e, decide_eq_true h1, decide_eq_true h2]
  simp only [Bool.true_and, List.all_eq_true]
  intro c hc
  exact decide_eq_true (h3 c (by simpa using hc))
theorem wA_len (f : Nat) : (wA f).length = 8 := by unfold wA; simp
theorem wA_let (f : Nat) : ∀ c ∈ wA f, c ∈ letters := fun c hc => by
  unfold wA at hc
  obtain ⟨j, _, rfl⟩ := List.mem_map.mp hc
  exact let_mem _ (Nat.mod_lt _ (by decide))
theorem wordA_ok (f k : Nat) (hk : k < 8) : isWordS (wordA f k) = true := by
  refine isWord_list _ ?_ ?_ fun c hc => wA_let f c (List.mem_of_mem_take hc)
  · rw [List.length_take, wA_len]; omega
  · rw [List.length_take, wA_len]; omega
theorem wordA_len (f k : Nat) (hk : k < 8) : (wordA f k).length = 1 + k := by
  show ((wA f).take (1 + k)).toArray.size = _
  rw [List.size_toArray, List.length_take, wA_len]; omega
def tails : List Str := [Str.ofString "", Str.ofString "o", Str.ofString "mine", Str.ofString "zzzzzzz"]
theorem tails_ok : ∀ t ∈ tails, t.cps.toList.length ≤ 7 ∧ ∀ c ∈ t.cps.toList, c ∈ letters := by decide +kernel
theorem wordB_list (f k : Nat) (t : Str) : wordB f t k = ⟨((97 + (f + 3 * k) % 26) :: t.cps.toList).toArray⟩ := by
  apply str_ext
  show (ch _ ++ t).cps.toList = _
  have := TL.tl_append (ch ((f + 3 * k) % 26)) t
  exact this
theorem wordB_ok (f k : Nat) (t : Str) (ht : t ∈ tails) : isWordS (wordB f t k) = true := by
  rw [wordB_list]
  obtain ⟨h1, h2⟩ := tails_ok t ht
  refine isWord_list _ (by simp) (by simp only [List.length_cons]; omega) fun c hc => ?_
  rcases List.mem_cons.mp hc with rfl | hc
  · exact let_mem _ (Nat.mod_lt _ (by decide))
  · exact h2 c hc
/-- so many words, all unlike -/
structure WOk (m : Nat) (ws : List Str) : Prop where
  len : ws.length = m
  nd : ws.Nodup
  word : ∀ w ∈ ws, isWordS w = true
  nz : Str.ofString "zz" ∉ ws
theorem zz_list : (Str.ofString "zz").cps.toList = [122, 122] := by decide +kernel
theorem wordA_nz (f k : Nat) (hk : k < 8) : wordA f k ≠ Str.ofString "zz" := fun e => by
  have h := congrArg (fun s : Str => s.cps.toList) e
  have h := h.trans zz_list
  have h : (wA f).take (1 + k) = [122, 122] := h
  have hl := congrArg List.length h
  rw [List.length_take, wA_len] at hl
  have hk1 : k = 1 := by simp at hl; omega
  subst hk1
  have h0 : (wA f).take 2 = [97 + (f + 5 * 0) % 26, 97 + (f + 5 * 1) % 26] := rfl
  rw [show 1 + 1 = 2 from rfl, h0] at h
  simp only [List.cons.injEq, and_true] at h
  omega
theorem tails_nz : ∀ t ∈ tails, t.cps.toList ≠ [122] := by decide +kernel
theorem wordB_nz (f k : Nat) (t : Str) (ht : t ∈ tails) : wordB f t k ≠ Str.ofString "zz" := fun e => by
  rw [wordB_list] at e
  have h := congrArg (fun s : Str => s.cps.toList) e
  have h := h.trans zz_list
  have h : (97 + (f + 3 * k) % 26) :: t.cps.toList = [122, 122] := h
  simp only [List.cons.injEq] at h
  exact tails_nz t ht h.2
theorem nodup_map {A B : Type} {f : A → B} : ∀ {l : List A}, l.Nodup → (∀ a ∈ l, ∀ b ∈ l, f a = f b → a = b) → (l.map f).Nodup
  | [], _, _ => List.nodup_nil
  | a :: l, nd, h => by
    rw [List.nodup_cons] at nd
    rw [List.map_cons, List.nodup_cons]
    refine ⟨fun z => ?_, nodup_map nd.2 fun x hx y hy => h x (List.mem_cons_of_mem _ hx) y (List.mem_cons_of_mem _ hy)⟩
    obtain ⟨b, hb, e⟩ := List.mem_map.mp z
    have := h b (List.mem_cons_of_mem _ hb) a (List.mem_cons_self ..) e
    subst this
    exact nd.1 hb
theorem wordsA_ok (f m : Nat) (hm : m ≤ 8) : WOk m ((List.range m).map (wordA f)) := by
  refine ⟨by simp, nodup_map List.nodup_range fun a ha b hb e => ?_, fun w hw => ?_, ?_⟩
  · have ha := List.mem_range.mp ha
    have hb := List.mem_range.mp hb
    have := congrArg Str.length e
    rw [wordA_len f a (by omega), wordA_len f b (by omega)] at this
    omega
  · obtain ⟨k, hk, rfl⟩ := List.mem_map.mp hw
    exact wordA_ok f k (by have := List.mem_range.mp hk; omega)
  · intro z
    obtain ⟨k, hk, e⟩ := List.mem_map.mp z
    exact wordA_nz f k (by have := List.mem_range.mp hk; omega) e
theorem wordsB_ok (f m : Nat) (hm : m ≤ 8) (t : Str) (ht : t ∈ tails) : WOk m ((List.range m).map (wordB f t)) := by
  refine ⟨by simp, nodup_map List.nodup_range fun a ha b hb e => ?_, fun w hw => ?_, ?_⟩
  · have ha := List.mem_range.mp ha
    have hb := List.mem_range.mp hb
    rw [wordB_list, wordB_list] at e
    have e2 := congrArg (fun s : Str => s.cps.toList.head?) e
    simp only [List.head?_cons, Option.some.injEq] at e2
    omega
  · obtain ⟨k, hk, rfl⟩ := List.mem_map.mp hw
    exact wordB_ok f k t ht
  · intro z
    obtain ⟨k, hk, e⟩ := List.mem_map.mp z
    exact wordB_nz f k t ht e
theorem t_draw {n : Nat} {st : Store} {env : D.Env} {m z : Int} (h : Hs n st) (h0 : ∀ st', var 0 env st' = .ok (.ref n) st') (hm : 0 < m) (hm2 : m < 1073741824) : Dr n st (fun _ : Bool => True) (tst (bin eq2 (appU f_l_draw (acons (var 0) (acons (cst (.int m)) anil))) (cst (.int z))) env st) := by
  rw [tst_ap, bin_ap]
  have d := e_drawV (n := n) (env := env) (v := cst (.int m)) h h0 (fun st' => cst_ap _ _ _) hm hm2
  refine Dr.bind (P := fun u => ∃ b : Bool, u = .bl b) (Dr.bind d fun u s k q => ?_) fun u s k q => ?_
  · obtain ⟨r, rfl, _⟩ := q
    simp only [cst_ap, bind_ok]
    exact Dr.of k.hs (show Rs.of (eq2 (.int (r : Int)) (.int z)) s = .ok (.bl (decide ((r : Int) = z))) s by simp) ⟨_, rfl⟩
  · obtain ⟨b, rfl⟩ := q
    exact .ok k.hs trivial
set_option maxHeartbeats 4000000 in
theorem words_ok (n m : Nat) (hm : m ≤ 8) (st : Store) (h : Hs n st) : Dr n st (fun u => ∃ ws, u = lS ws ∧ WOk m ws) (f_l_words [.ref n, .int (m : Int)] st) := by
  have rm := rng1_nat m (by omega)
  have r8 : rng1 [U.int 8] = some ((List.range 8).map fun i => U.int (i : Nat)) := rng1_nat 8 (by decide)
  have sm5 : smallI 5 = true := smallI_of (by decide) (by decide)
  have sm3 : smallI 3 = true := smallI_of (by decide) (by decide)
  show DrF n st [.val (.ref n), .val (.int (m : Int)), .un, .un, .un, .un, .un, .un] _ b_l_words
  unfold b_l_words
  refine f_set (Q := fun u => u = .str abc) (e_of h (cst_ap _ _ _) rfl) fun u s1 k1 e => ?_
  subst e
  simp only [List.set_cons_succ, List.set_cons_zero]
  refine f_set (e_drawV k1.hs (fun _ => rfl) (fun _ => rfl) (by decide) (by decide)) fun u s2 k2 e => ?_
  obtain ⟨f, rfl, hf⟩ := e
  simp only [List.set_cons_succ, List.set_cons_zero]
  have atL : ∀ x : Nat, ix2 (.str abc) (.int ((x % 26 : Nat) : Int)) = some (.str (ch (x % 26))) := fun x => abc_at _ (Nat.mod_lt _ (by decide))
  refine f_ifB (t_draw k2.hs (fun _ => rfl) (by decide) (by decide)) fun b s3 k3 _ => ?_
  cases b with
  | true =>
    rw [if_pos rfl]
    have c8 : compL (tgN 7) yesT (bin ix2 (var 2) (bin mod2 (bin add2 (var 3) (bin mul2 (cst (.int 5)) (var 7))) (cst (.int 26)))) ((List.range 8).map fun i => U.int (i : Nat)) [.val (.ref n), .val (.int (m : Int)), .val (.str abc), .val (.int (f : Int)), .un, .un, .un, .un] s3 = .ok (((List.range 8).map fun j => ch ((f + 5 * j) % 26)).map U.str) s3 := by
      rw [List.map_map]
      exact comp_allM (List.range 8) fun j hj => ⟨_, rfl, by
        have := atL (f + 5 * j)
        rw [show (((f + 5 * j) % 26 : Nat) : Int) = ((f : Int) + 5 * (j : Int)) % 26 by omega] at this
        generalize U.str abc = AA at *
        simp [sm5, this]⟩
    have jn : join2 (Str.ofString "") (.lst (((List.range 8).map fun j => ch ((f + 5 * j) % 26)).map U.str)) = some (.str ⟨(wA f).toArray⟩) := by
      unfold join2
      show (strsU (((List.range 8).map fun j => ch ((f + 5 * j) % 26)).map U.str)).bind _ = _
      rw [strs_map]
      have e1 : Txt.join (Str.ofString "") ((List.range 8).map fun j => ch ((f + 5 * j) % 26)) = ⟨(wA f).toArray⟩ := by
        apply str_ext
        rw [TL.join_eq]
        have := TL.tl_join (Str.ofString "") ((List.range 8).map fun j => ch ((f + 5 * j) % 26))
        exact this
      have hz : ((((List.range 8).map fun j => ch ((f + 5 * j) % 26)).map (·.length)).sum + ((List.range 8).map fun j => ch ((f + 5 * j) % 26)).length * (Str.ofString "").length ≤ 16777216) := by
        have : (((List.range 8).map fun j => ch ((f + 5 * j) % 26)).map (·.length)).sum = 8 := rfl
        rw [this, List.length_map, List.length_range]
        decide +kernel
      simp only [Option.bind_some, e1, if_pos hz]
    have cm : ∀ s4 : Store, compL (tgN 6) yesT (slD (var 5) noO (soO (bin add2 (cst (.int 1)) (var 6)))) ((List.range m).map fun i => U.int (i : Nat)) [.val (.ref n), .val (.int (m : Int)), .val (.str abc), .val (.int (f : Int)), .un, .val (.str ⟨(wA f).toArray⟩), .un, .un] s4 = .ok (((List.range m).map (wordA f)).map U.str) s4 := fun s4 => by
      rw [List.map_map]
      exact comp_allM (List.range m) fun j hj => ⟨_, rfl, by
        have hj := List.mem_range.mp hj
        have hl : (⟨(wA f).toArray⟩ : Str).length = 8 := by show (wA f).toArray.size = 8; rw [List.size_toArray, wA_len]
        have hc : cutS ⟨(wA f).toArray⟩ none (some (1 + (j : Int))) = wordA f j := by
          apply str_ext
          have := cutL_to (wA f) (1 + j)
          rw [show ((1 + j : Nat) : Int) = 1 + (j : Int) by omega] at this
          unfold cutL at this
          unfold cutS
          rw [hl]
          rw [wA_len] at this
          simpa [wordA] using this
        have hl' : (⟨(wA f).toArray⟩ : Str).length ≤ 16777216 := by rw [hl]; decide
        generalize (⟨(wA f).toArray⟩ : Str) = WW at *
        simp [hl', hc]⟩
    refine ⟨lS ((List.range m).map (wordA f)), s3, ?_, .refl k3.hs, _, rfl, wordsA_ok f m hm⟩
    have hmz : m ≤ 16777216 := by omega
    generalize hRM : ((List.range m).map fun i => U.int (i : Nat)) = RM at *
    generalize hR8 : ((List.range 8).map fun i => U.int (i : Nat)) = R8 at *
    generalize hL : (((List.range 8).map fun j => ch ((f + 5 * j) % 26)).map U.str) = L8 at *
    generalize hLm : ((List.range m).map (wordA f)).map U.str = LM at *
    have lm : RM.length ≤ 16777216 := by rw [← hRM, List.length_map, List.length_range]; omega
    have l8 : R8.length ≤ 16777216 := by rw [← hR8, List.length_map, List.length_range]; decide
    generalize (⟨(wA f).toArray⟩ : Str) = WW at *
    have hS : lS ((List.range m).map (wordA f)) = .lst LM := by rw [← hLm]
    rw [hS]
    generalize Str.ofString "" = EE at *
    simp [r8, rm, lm, l8, wipeE, c8, jn, cm]
  | false =>
    rw [if_neg Bool.false_ne_true]
    refine f_set (Q := fun u => ∃ t ∈ tails, u = .str t) (e_bin (Q := fun u => u = .lst (tails.map U.str)) (e_of k3.hs (by rfl) rfl) (fun u s k _ => e_drawV k.hs (fun _ => rfl) (fun _ => rfl) (by decide) (by decide)) fun u v hu hv => ?_) fun u s4 k4 e => ?_
    · subst hu
      obtain ⟨r, rfl, hr⟩ := hv
      obtain ⟨t, ht, e⟩ := pick tails (r : Int) (by omega) hr
      exact ⟨.str t, atI_map U.str e, t, ht, rfl⟩
    · obtain ⟨t, ht, rfl⟩ := e
      simp only [List.set_cons_succ, List.set_cons_zero]
      have cm : compL (tgN 6) yesT (bin add2 (bin ix2 (var 2) (bin mod2 (bin add2 (var 3) (bin mul2 (cst (.int 3)) (var 6))) (cst (.int 26)))) (var 4)) ((List.range m).map fun i => U.int (i : Nat)) [.val (.ref n), .val (.int (m : Int)), .val (.str abc), .val (.int (f : Int)), .val (.str t), .un, .un, .un] s4 = .ok (((List.range m).map (wordB f t)).map U.str) s4 := by
        rw [List.map_map]
        exact comp_allM (List.range m) fun j hj => ⟨_, rfl, by
          have := atL (f + 3 * j)
          rw [show (((f + 3 * j) % 26 : Nat) : Int) = ((f : Int) + 3 * (j : Int)) % 26 by omega] at this
          have hl : (ch ((f + 3 * j) % 26)).length + t.length ≤ 16777216 := by
            have h1 : (ch ((f + 3 * j) % 26)).length = 1 := rfl
            have h2 := (tails_ok t ht).1
            have h3 : t.length = t.cps.toList.length := by simp [Str.length]
            omega
          generalize U.str abc = AA at *
          simp [sm3, this, hl, wordB]⟩
      refine f_ret (e_of k4.hs ?_ ⟨_, rfl, wordsB_ok f m hm t ht⟩)
      have lm : ((List.range m).map fun i => U.int (i : Nat)).length ≤ 16777216 := by rw [List.length_map, List.length_range]; omega
      generalize ((List.range m).map fun i => U.int (i : Nat)) = RM at *
      generalize hLm : ((List.range m).map (wordB f t)).map U.str = LM at *
      have hS : lS ((List.range m).map (wordB f t)) = .lst LM := by rw [← hLm]
      rw [hS]
      simp [rm, lm, wipeE, cm]
end G2
namespace R
open PySem L2 D C
@[simp] theorem is_ref_non (n : Nat) : is2 (.ref n) .non = some (.bl false) := (rfl)
@[simp] theorem isnot_ref_non (n : Nat) : isnot2 (.ref n) .non = some (.bl true) := (rfl)
def VsOk (l : List (Str × U)) : Prop := ∀ p ∈ l, valU 4 p.2 = true
theorem putO_mk (l : List (Str × U)) (x : Str) (v : U) (h : l.length < 16777216) : putO (mkOb (kv l)) (.str x) v = some (mkOb (kv (putA l x v))) := by
  have k := kvs_mk (kv l)
  have hl : (kv l).length < sizeLine := by unfold kv; rw [List.length_map]; exact h
  unfold mkOb putO
  simp only [k, Option.bind_some, kOf, if_pos hl, putG_kv]
  rfl
theorem merge_kv : ∀ (ps acc : List (Str × U)), mergeG (kv acc) (kv ps) = kv (ps.foldl (fun acc p => putA acc p.1 p.2) acc)
  | [], acc => rfl
  | p :: ps, acc => by
    show mergeG (putG (kv acc) (.inr p.1) p.2) (kv ps) = _
    rw [putG_kv, merge_kv ps]
    rfl
theorem FrRep.len {st : Store} : ∀ {fs : List (Nat × Nat)} {frs : List Fm}, FrRep st fs frs → fs.length = frs.length
  | [], [], _ => rfl
  | _ :: _, _ :: _, h => by rw [List.length_cons, List.length_cons, FrRep.len h.2.2]
  | [], _ :: _, h => h.elim
  | _ :: _, [], h => h.elim
end R
namespace R
open PySem L2 D C
end R
namespace R
open PySem L2 D C
def Pl : Nat → U → Prop
  | 0, _ => False
  | n + 1, .tup us => ∀ u ∈ us, Pl n u
  | n + 1, .lst us => ∀ u ∈ us, Pl n u
  | n + 1, .dct ks us => ∃ l : List (Str × U), ks = (kv l).map (fun p => kU p.1) ∧ us = (kv l).map (·.2) ∧ (l.map (·.1)).Nodup ∧ ∀ p ∈ l, Pl n p.2
  | _ + 1, .non => True
  | _ + 1, .bl _ => True
  | _ + 1, .int _ => True
  | _ + 1, .str _ => True
  | _ + 1, _ => False
theorem Pl.mono : ∀ {n m : Nat} {u : U}, Pl n u → n ≤ m → Pl m u
  | 0, _, _, h, _ => h.elim
  | n + 1, m, u, h, hm => by
    obtain ⟨k, rfl⟩ : ∃ k, m = k + 1 := ⟨m - 1, by omega⟩
    cases u with
    | tup us => exact fun u hu => Pl.mono (h u hu) (by omega)
    | lst us => exact fun u hu => Pl.mono (h u hu) (by omega)
    | dct ks us =>
      obtain ⟨l, h1, h2, h3, h4⟩ := h
      exact ⟨l, h1, h2, h3, fun p hp => Pl.mono (h4 p hp) (by omega)⟩
    | non => trivial
    | bl => trivial
    | int => trivial
    | str => trivial
    | _ => exact h
theorem map_self {A : Type} {f : A → A} : ∀ {l : List A}, (∀ x ∈ l, f x = x) → l.map f = l
  | [], _ => rfl
  | x :: l, h => by rw [List.map_cons, h x (List.mem_cons_self ..), map_self fun y hy => h y (List.mem_cons_of_mem _ hy)]
theorem kv_vals (l : List (Str × U)) : (kv l).map (·.2) = l.map (·.2) := by unfold kv; rw [List.map_map]; rfl
theorem Pl.der : ∀ {n : Nat} {u : U}, Pl n u → ∀ (m : Nat) (st : Store), derF m st u = u
  | 0, _, h, _, _ => h.elim
  | n + 1, u, h, 0, st => by unfold derF; rfl
  | n + 1, u, h, m + 1, st => by
    cases u with
    | tup us => unfold derF; rw [map_self fun u hu => Pl.der (h u hu) m st]
    | lst us => unfold derF; rw [map_self fun u hu => Pl.der (h u hu) m st]
    | dct ks us =>
      obtain ⟨l, rfl, rfl, h3, h4⟩ := h
      unfold derF
      rw [map_self fun u hu => ?_]
      rw [kv_vals] at hu
      obtain ⟨p, hp, rfl⟩ := List.mem_map.mp hu
      exact Pl.der (h4 p hp) m st
    | ref => exact h.elim
    | _ => unfold derF; rfl
theorem noRefs_all : ∀ {us : List U}, (∀ u ∈ us, noRef u = true) → noRefs us = true
  | [], _ => by unfold noRefs; rfl
  | u :: us, h => by
    unfold noRefs
    rw [h u (List.mem_cons_self ..), noRefs_all fun v hv => h v (List.mem_cons_of_mem _ hv)]
    rfl
theorem Pl.noRef : ∀ {n : Nat} {u : U}, Pl n u → D.noRef u = true
  | 0, _, h => h.elim
  | n + 1, u, h => by
    cases u with
    | tup us => unfold D.noRef; exact noRefs_all fun u hu => Pl.noRef (h u hu)
    | lst us => unfold D.noRef; exact noRefs_all fun u hu => Pl.noRef (h u hu)
    | dct ks us =>
      obtain ⟨l, rfl, rfl, h3, h4⟩ := h
      unfold D.noRef
      refine noRefs_all fun u hu => ?_
      rw [kv_vals] at hu
      obtain ⟨p, hp, rfl⟩ := List.mem_map.mp hu
      exact Pl.noRef (h4 p hp)
    | ref => exact h.elim
    | _ => unfold D.noRef; rfl
theorem getA_self : ∀ {l : List (Str × U)}, (l.map (·.1)).Nodup → ∀ p ∈ l, getA l p.1 = some p.2
  | [], _, p, hp => (nomatch hp)
  | q :: l, hn, p, hp => by
    rw [List.map_cons, List.nodup_cons] at hn
    unfold getA
    rcases List.mem_cons.mp hp with rfl | hp
    · simp
    · have hne : ¬ q.1 = p.1 := fun e => hn.1 (e ▸ List.mem_map_of_mem hp)
      rw [List.find?_cons_of_neg (by simpa using hne)]
      exact getA_self hn.2 p hp
theorem eqD_kv {f : U → U → Option Bool} {l : List (Str × U)} (hn : (l.map (·.1)).Nodup) : ∀ r : List (Str × U), (∀ p ∈ r, p ∈ l ∧ f p.2 p.2 = some true) → eqD f (kv l) (kv r) = some true
  | [], _ => rfl
  | p :: r, h => by
    obtain ⟨h1, h2⟩ := h p (List.mem_cons_self ..)
    have ih := eqD_kv hn r fun q hq => h q (List.mem_cons_of_mem _ hq)
    show eqD f (kv l) ((.inr p.1, p.2) :: kv r) = _
    unfold eqD
    simp only [valG_kv, getA_self hn p h1, h2, ih]
    rfl
theorem Pl.eqG : ∀ {n : Nat} {u : U}, Pl n u → ∀ m, n ≤ m → D.eqG m u u = some true
  | 0, _, h, _, _ => h.elim
  | n + 1, u, h, m, hm => by
    obtain ⟨k, rfl⟩ : ∃ k, m = k + 1 := ⟨m - 1, by omega⟩
    cases u with
    | tup us =>
      unfold D.eqG
      rw [eqZ_refl us fun u hu => Pl.eqG (h u hu) k (by omega)]
      simp
    | lst us =>
      unfold D.eqG
      rw [if_pos rfl, eqZ_refl us fun u hu => Pl.eqG (h u hu) k (by omega)]
    | dct ks us =>
      obtain ⟨l, rfl, rfl, h3, h4⟩ := h
      unfold D.eqG
      simp only [kvs_mk, if_true]
      exact eqD_kv h3 l fun p hp => ⟨hp, Pl.eqG (h4 p hp) k (by omega)⟩
    | non => rfl
    | bl b => unfold D.eqG eqP; simp
    | int i => unfold D.eqG eqP; simp
    | str x => unfold D.eqG eqP; simp
    | ref => exact h.elim
    | ty => exact h.elim
    | _ => exact h.elim
theorem Pl.ne3 {n : Nat} {u : U} (h : Pl n u) (hn : n ≤ 60) : D.ne3 u u = some (.bl false) := by unfold D.ne3; rw [h.eqG 60 hn]; rfl
theorem pl_mk {n : Nat} {l : List (Str × U)} (h1 : (l.map (·.1)).Nodup) (h2 : ∀ p ∈ l, Pl n p.2) : Pl (n + 1) (mkD (kv l)) := ⟨l, rfl, rfl, h1, h2⟩
theorem der_lst {st : Store} {k : Nat} {us : List U} (h : st[k]? = some (.lst us)) {n : Nat} (hp : ∀ u ∈ us, Pl n u) (m : Nat) : derF (m + 1) st (.ref k) = .lst us := by
  unfold derF
  rw [h]
  simp only
  rw [map_self fun u hu => (hp u hu).der m st]
theorem der_dct {st : Store} {k : Nat} {l : List (Str × U)} (h : st[k]? = some (mkOb (kv l))) {n : Nat} (hp : ∀ p ∈ l, Pl n p.2) (m : Nat) : derF (m + 1) st (.ref k) = mkD (kv l) := by
  unfold mkOb at h
  unfold derF
  rw [h]
  show U.dct _ (((kv l).map (·.2)).map (derF m st)) = _
  rw [map_self fun u hu => ?_]
  · rfl
  · rw [kv_vals] at hu
    obtain ⟨p, hp', rfl⟩ := List.mem_map.mp hu
    exact (hp p hp').der m st
theorem putA_keys {l : List (Str × U)} (h : (l.map (·.1)).Nodup) (x : Str) (v : U) : ((putA l x v).map (·.1)).Nodup := by
  unfold putA
  split
  · rw [List.map_map]
    have : ((fun p : Str × U => p.1) ∘ fun p => if p.1 = x then (p.1, v) else p) = fun p => p.1 := by
      funext p
      simp only [Function.comp]
      split <;> rfl
    rw [this]
    exact h
  · rename_i hx
    rw [List.map_append, List.nodup_append]
    refine ⟨h, by simp, fun a ha b hb => ?_⟩
    simp only [List.map_cons, List.map_nil, List.mem_singleton] at hb
    subst hb
    intro e
    subst e
    apply hx
    obtain ⟨p, hp, e⟩ := List.mem_map.mp ha
    rw [List.any_eq_true]
    exact ⟨p, hp, by simpa using e⟩
structure Outs (S : Rn) : Prop where
  en : ∀ u, S.ended = some u → Pl 10 u
  evs : ∀ u ∈ S.evs, Pl 10 u
  pap : ∀ u ∈ S.papers, Pl 10 u
  shv : VsOk S.shelf
  shk : (S.shelf.map (·.1)).Nodup
section
variable {w : Way} {S : Rn} {f : Fm} {fs : List Fm}
theorem place_pl (S : Rn) : ∀ u ∈ S.place, Pl 9 u := by
  unfold Rn.place
  intro u hu
  split at hu
  · simp only [List.mem_cons, List.not_mem_nil, or_false] at hu
    rcases hu with rfl | rfl <;> trivial
  · cases hu
theorem Outs.same (o : Outs S) {S' : Rn} (e1 : S'.ended = S.ended) (e2 : S'.evs = S.evs) (e3 : S'.papers = S.papers) (e4 : S'.shelf = S.shelf) : Outs S' :=
  ⟨by rw [e1]; exact o.en, by rw [e2]; exact o.evs, by rw [e3]; exact o.pap, by rw [e4]; exact o.shv, by rw [e4]; exact o.shk⟩
theorem Outs.stop (o : Outs S) {l : List U} (h : ∀ u ∈ l, Pl 9 u) : Outs (S.stop l) := by
  refine ⟨fun u hu => ?_, o.evs, o.pap, o.shv, o.shk⟩
  have hu : some (U.tup (l ++ S.place)) = some u := hu
  cases hu
  intro u hu
  rcases List.mem_append.mp hu with hu | hu
  · exact h u hu
  · exact place_pl S u hu
theorem Outs.done (o : Outs S) (x : Str) {v : U} (h : Pl 9 v) : Outs (S.done x v) := by
  refine ⟨o.en, fun u hu => ?_, o.pap, o.shv, o.shk⟩
  rcases List.mem_append.mp (show u ∈ S.evs ++ _ from hu) with hu | hu
  · exact o.evs u hu
  · rw [List.mem_singleton] at hu
    subst hu
    intro u hu
    rcases List.mem_append.mp hu with hu | hu
    · simp only [List.mem_cons, List.not_mem_nil, or_false] at hu
      rcases hu with rfl | rfl | rfl
      · trivial
      · trivial
      · exact h
    · exact place_pl S u hu
theorem Outs.goOn (o : Outs S) (k : Nat) : Outs (S.goOn k) := o.same rfl rfl rfl rfl
end
end R
namespace T_allcallers_k40_led_back
open PySem L2 D C R G2
theorem draw_eq : f_l_draw = C.f_l_draw := rfl
theorem hand_eq : f_l_hand = C.f_l_hand := rfl
theorem words_eq : f_l_words = G2.f_l_words := rfl
theorem chain {s rest : DS} {env env1 : D.Env} {st st1 : Store} (h : s env st = .nx env1 st1) : sSeq s rest env st = rest env1 st1 := by
  rw [sSeq_ap, h]; rfl
abbrev PlL := List (Str × List Int)
def isU (is : List Int) : U := .lst (is.map U.int)
def plA (L : PlL) : List (Str × U) := L.map fun p => (p.1, isU p.2)
structure LOk (L : PlL) : Prop where
  nd : (L.map (·.1)).Nodup
  ne : ∀ p ∈ L, p.2 ≠ [] ∧ p.2.length ≤ 40
  len : L.length ≤ 4
def InL (L : PlL) (x : Str) (r : Nat) : Prop := ∃ is, (x, is) ∈ L ∧ r < is.length
theorem plA_keys (L : PlL) : (plA L).map (·.1) = L.map (·.1) := by unfold plA; rw [List.map_map]; rfl
theorem get_plA {L : PlL} (h : LOk L) {x : Str} {is : List Int} (hm : (x, is) ∈ L) : getA (plA L) x = some (isU is) :=
  getA_self (l := plA L) (by rw [plA_keys]; exact h.nd) (x, isU is) (List.mem_map.mpr ⟨(x, is), hm, rfl⟩)
theorem txtK (l : List (Str × U)) : txtKeys (kv l) = some (l.map (·.1)) := by
  induction l with
  | nil => rfl
  | cons p l ih =>
    show (txtKeys (kv l)).map (p.1 :: ·) = _
    rw [ih]; rfl
theorem sortDk_pl {L : PlL} (h : LOk L) : sortDk (kv (plA L)) = some ((sortS (L.map (·.1))).map U.str) := by
  unfold sortDk
  rw [txtK, plA_keys]
  have := h.len
  simp only [Option.bind_some]
  rw [if_pos (by rw [List.length_map]; omega)]
theorem getU_ref {L : PlL} (h : LOk L) {st : Store} {D : Nat} (hd : st[D]? = some (mkOb (kv (plA L)))) {x : Str} {is : List Int} (hm : (x, is) ∈ L) : getU st (.ref D) (.str x) = some (isU is) := by
  unfold getU
  simp only [hd]
  show (kvsOf ((kv (plA L)).map fun p => kU p.1) ((kv (plA L)).map (·.2))).bind _ = _
  rw [kvs_mk]
  exact (valG_kv (plA L) x).trans (get_plA h hm)
theorem getU_dct {L : PlL} (h : LOk L) {st : Store} {x : Str} {is : List Int} (hm : (x, is) ∈ L) : getU st (mkD (kv (plA L))) (.str x) = some (isU is) := by
  unfold getU mkD
  simp only [kvs_mk]
  exact (valG_kv (plA L) x).trans (get_plA h hm)
theorem keep_at {n D : Nat} {st st' : Store} {o : Ob} (k : Keep n st st') (hD : D ≠ n) (h : st[D]? = some o) : st'[D]? = some o := by rw [k.oth D hD, h]
theorem place_ok {L : PlL} (hL : LOk L) (h1 : L ≠ []) {n D : Nat} (hD : D ≠ n) (st : Store) (h : Hs n st) (hd : st[D]? = some (mkOb (kv (plA L)))) :
    Dr n st (fun u => ∃ x r, u = .tup [.str x, .int (r : Nat)] ∧ InL L x r) (f_l_place [.ref n, .ref D] st) := by
  have e0 := dictAt_mk hd
  have es := sortDk_pl hL
  have l4 := hL.len
  have lk : (sortS (L.map (·.1))).length = L.length := by rw [(sort_perm _).length_eq, List.length_map]
  have l0 : 0 < L.length := List.length_pos_iff.mpr h1
  obtain ⟨_, s1, e1, k1, i, rfl, hi⟩ := draw h (m := ((sortS (L.map (·.1))).length : Int)) (by omega) (by omega)
  obtain ⟨y, hy, hyi⟩ := pick ((sortS (L.map (·.1))).map U.str) (i : Int) (by omega) (by rw [List.length_map]; omega)
  obtain ⟨x, hx, rfl⟩ := List.mem_map.mp hy
  rw [(sort_perm _).mem_iff] at hx
  obtain ⟨⟨x', is⟩, hm, rfl⟩ := List.mem_map.mp hx
  have hg := getU_ref hL (keep_at k1 hD hd) hm
  obtain ⟨q1, q2⟩ := hL.ne _ hm
  have q0 : 0 < is.length := List.length_pos_iff.mpr q1
  have q2 : is.length ≤ 40 := q2
  obtain ⟨_, s2, e2, k2, r, rfl, hr⟩ := draw k1.hs (m := (is.length : Int)) (by omega) (by omega)
  refine ⟨.tup [.str x', .int (r : Nat)], s2, ?_, k1.trans k2, x', r, rfl, is, hm, by omega⟩
  have lx : lenN [.lst ((sortS (L.map (·.1))).map U.str)] = some (.int ((sortS (L.map (·.1))).length : Int)) := by simp
  have ly : lenN [isU is] = some (.int (is.length : Int)) := by unfold isU; simp
  generalize (sortS (L.map (·.1))).map U.str = KS at *
  generalize isU is = IU at *
  generalize ((sortS (L.map (·.1))).length : Int) = kn at *
  generalize kv (plA L) = KV at *
  unfold f_l_place b_l_place
  rw [draw_eq]
  have hyi : ix2 (.lst KS) (.int (i : Int)) = some (.str x') := hyi
  simp [e0, es, lx, e1, hyi, hg, ly, e2, fin, szT, -ix_lst']
theorem value_ok {L : PlL} (hL : LOk L) (h1 : L ≠ []) {n D : Nat} (hD : D ≠ n) (st : Store) (h : Hs n st) (hd : st[D]? = some (mkOb (kv (plA L)))) :
    Dr n st (fun u => Pl 4 u) (f_l_value [.ref n, .ref D] st) := by
  obtain ⟨_, s1, e1, k1, x, r, rfl, hr⟩ := place_ok hL h1 hD st h hd
  obtain ⟨_, s2, e2, k2, i, rfl, hi⟩ := draw k1.hs (show (0 : Int) < 5 by decide) (by decide)
  obtain ⟨v, hv, hvi⟩ := pick [U.int (r : Int), .int (0 - (r : Int)), .tup [.str (Str.ofString "fun"), .str x, .tup [.int (r : Int)]], .tup [.str (Str.ofString "fun"), .str x, .tup []], .int 1000000000000000000] (i : Int) (by omega) hi
  refine ⟨v, s2, ?_, k1.trans k2, ?_⟩
  · unfold f_l_value b_l_value
    rw [draw_eq]
    have p18 : pow2 (.int 10) (.int 18) = some (.int 1000000000000000000) := by rfl
    have tg : tgA [2, 3] (.tup [.str x, .int (r : Int)]) = some [(2, .str x), (3, .int (r : Int))] := rfl
    have hvi : ix2 (.lst [U.int (r : Int), .int (0 - (r : Int)), .tup [.str (Str.ofString "fun"), .str x, .tup [.int (r : Int)]], .tup [.str (Str.ofString "fun"), .str x, .tup []], .int 1000000000000000000]) (.int (i : Int)) = some v := hvi
    rw [Int.zero_sub] at hvi
    simp [e1, sUnp, tg, szT, szL, p18, e2, sub2, hvi, fin, -ix_lst']

  · simp only [List.mem_cons, List.not_mem_nil, or_false] at hv
    rcases hv with rfl | rfl | rfl | rfl | rfl <;> (first | trivial | (simp [Pl]))
end T_allcallers_k40_led_back
namespace G2
open PySem L2 D C
/-- a loop with the store -/
theorem for_stL {T : Type} {t : Tg} {b : DS} {f : T → U} (I : List T → D.Env → Store → Prop) : ∀ (l : List T) (env : D.Env) (st : Store), I l env st → (∀ x r env st, x ∈ l → I (x :: r) env st → ∃ a env' st', t (f x) = some a ∧ b (setE env a) st = .nx env' st' ∧ I r env' st') → ∃ env' st', forL t b (l.map f) env st = .nx env' st' ∧ I [] env' st'
  | [], env, st, h, _ => ⟨env, st, rfl, h⟩
  | x :: l, env, st, h, step => by
    obtain ⟨a, env1, st1, h1, h2, h3⟩ := step x l env st (List.mem_cons_self ..) h
    obtain ⟨env2, st2, e, q⟩ := for_stL I l env1 st1 h3 fun y r env st hy => step y r env st (List.mem_cons_of_mem _ hy)
    exact ⟨env2, st2, by rw [List.map_cons, for_cons, h1]; simp only [h2]; exact e, q⟩
structure Hd where
  name : Str
  own : List Str
  params : List Str
def Hd.u (h : Hd) : U := .tup [.str h.name, tS h.own, tS h.params]
structure Kit where
  heads : List Hd
  roster : List Str
  pool : List Str
def Kit.u (k : Kit) : U := .tup [.lst (k.heads.map Hd.u), lS k.roster, lS k.pool]
end G2
namespace T_allcallers_k40_led_back
open PySem L2 D C R G2
mutual
theorem low_of : ∀ (n : Nat) (u : U), noRef u = true → lowRef n u = true
  | n, .ref j, h => by unfold noRef at h; cases h
  | n, .tup us, h => by unfold noRef at h; unfold lowRef; exact lows_of n us h
  | n, .lst us, h => by unfold noRef at h; unfold lowRef; exact lows_of n us h
  | n, .dct ks us, h => by unfold noRef at h; unfold lowRef; exact lows_of n us h
  | _, .non, _ => by unfold lowRef; rfl
  | _, .bl _, _ => by unfold lowRef; rfl
  | _, .int _, _ => by unfold lowRef; rfl
  | _, .str _, _ => by unfold lowRef; rfl
  | _, .ty _, _ => by unfold lowRef; rfl
  | _, .scr _, _ => by unfold lowRef; rfl
theorem lows_of : ∀ (n : Nat) (us : List U), noRefs us = true → lowRefs n us = true
  | _, [], _ => rfl
  | n, u :: us, h => by
    unfold noRefs at h
    rw [Bool.and_eq_true] at h
    unfold lowRefs
    rw [low_of n u h.1, lows_of n us h.2]; rfl
end
def Low (st : Store) : Prop := ∀ ob ∈ st, ∀ n, lowOb n ob = true
theorem Low.st {st : Store} (h : Low st) (n : Nat) : lowSt n st = true := by
  unfold lowSt
  rw [List.all_eq_true]
  exact fun ob hob => h ob hob n
theorem low_nil : Low [] := fun _ z => nomatch z
theorem cutZ_of {u v : U} {st : Store} {n : Nat} (hd : derN 12 n st u = v) (hn : noRef v = true) (hl : Low (st.take n)) : cutZ n (.ok u st) = .ok v (st.take n) := by
  unfold cutZ
  simp only
  rw [hd, if_pos ⟨hl.st n, low_of n v hn⟩]
def drS1 : DS := (sSet 1 refD0)
def drS2 : DS := (sFor (itemsD (appU f_l_words (acons (var 0) (acons (bin add2 (cst (.int 1)) (appU f_l_draw (acons (var 0) (acons (cst (.int 4)) anil)))) anil)))) (tgN 2) t1_l_drawn)
def drS3 : DS := (sSet 3 (appU f_l_place (acons (var 0) (acons (var 1) anil))))
def drS4 : DS := (sSet 4 (bin ix2 (newL (sortD (var 1))) (cst (.int 0))))
def drS5 : DS := (sSet 5 (appU f_l_value (acons (var 0) (acons (var 1) anil))))
def drS6 : DS := (sSet 6 (appN szL (acons (appN szT (acons (cst (.str (Str.ofString "gives"))) (acons (var 5) anil))) (acons (bin add2 (appN szT (acons (cst (.str (Str.ofString "refused"))) (acons (var 4) anil))) (var 3)) (acons (bin add2 (appN szT (acons (cst (.str (Str.ofString "spent"))) anil)) (var 3)) (acons (bin add2 (appN szT (acons (cst (.str (Str.ofString "stuck"))) (acons (cst (.str (Str.ofString "many"))) anil))) (var 3)) anil))))))
def drS7 : DS := (sSet 7 (bin ix2 (var 6) (appU f_l_draw (acons (var 0) (acons (cst (.int 4)) anil)))))
def drS8 : DS := (sOwn 8 (szDL anil))
def drS9 : DS := (sFor (itA rng1 (acons (appU f_l_draw (acons (var 0) (acons (cst (.int 10)) anil))) anil)) (tgN 9) t2_l_drawn)
def drS10 : DS := (sSet 10 (newD (prsK (newL (compD (itemsD (slD (newL (sortD (var 1))) noO (soO (appU f_l_draw (acons (var 0) (acons (cst (.int 4)) anil)))))) [2] (tgN 2) yesT (appN szT (acons (var 2) (acons (appU f_l_value (acons (var 0) (acons (var 1) anil))) anil))))))))
def drS11 : DS := (frzS 8 (sRet (appN szT (acons (var 1) (acons (appN szT (acons (var 7) (acons (var 8) (acons (var 10) (acons (bin add2 (cst (.int 1)) (appU f_l_draw (acons (var 0) (acons (cst (.int 60)) anil)))) anil))))) anil)))))
theorem drS_eq : b_l_drawn = sSeq drS1 (sSeq drS2 (sSeq drS3 (sSeq drS4 (sSeq drS5 (sSeq drS6 (sSeq drS7 (sSeq drS8 (sSeq drS9 (sSeq drS10 (sSeq drS11 sNil)))))))))) := rfl
theorem derN_pl : ∀ {n : Nat} {u : U}, Pl n u → ∀ (m k : Nat) (st : Store), derN m k st u = u
  | 0, _, h, _, _, _ => h.elim
  | n + 1, u, h, 0, k, st => by unfold derN; rfl
  | n + 1, u, h, m + 1, k, st => by
    cases u with
    | tup us => unfold derN; rw [map_self fun u hu => derN_pl (h u hu) m k st]
    | lst us => unfold derN; rw [map_self fun u hu => derN_pl (h u hu) m k st]
    | dct ks us =>
      obtain ⟨l, rfl, rfl, h3, h4⟩ := h
      unfold derN
      rw [map_self fun u hu => ?_]
      rw [kv_vals] at hu
      obtain ⟨p, hp, rfl⟩ := List.mem_map.mp hu
      exact derN_pl (h4 p hp) m k st
    | ref => exact h.elim
    | _ => unfold derN; rfl
/-- each thing by a draw, the rest of the store as it was -/
theorem comp_drK {T : Type} {n : Nat} {t : Tg} {e : DE} {env : D.Env} {f : T → U} {P : U → Prop} : ∀ (l : List T) (st : Store), Hs n st → (∀ x ∈ l, ∃ a, t (f x) = some a ∧ ∀ st', Keep n st st' → Dr n st' P (e (setE env a) st')) → Dr n st (fun us => us.length = l.length ∧ ∀ u ∈ us, P u) (compL t yesT e (l.map f) env st)
  | [], st, h, _ => Dr.of h (comp_nil ..) ⟨rfl, fun _ z => nomatch z⟩
  | x :: l, st, h, hs => by
    obtain ⟨a, e1, e2⟩ := hs x (List.mem_cons_self ..)
    rw [List.map_cons, comp_cons, e1]
    simp only [yesT_ap, bind_ok, if_true]
    refine Dr.bind (e2 st (.refl h)) fun u s1 k1 p => Dr.bind (comp_drK (P := P) l s1 k1.hs fun y hy => ?_) fun us s2 k2 q => .ok k2.hs ⟨by simp [q.1], fun v hv => ?_⟩
    · obtain ⟨a2, g1, g2⟩ := hs y (List.mem_cons_of_mem _ hy)
      exact ⟨a2, g1, fun st' k => g2 st' (k1.trans k)⟩
    rcases List.mem_cons.mp hv with rfl | hv
    · exact p
    · exact q.2 v hv
theorem ints_of : ∀ {us : List U}, (∀ u ∈ us, ∃ r : Nat, u = .int (r : Int)) → ∃ is : List Int, us = is.map U.int ∧ is.length = us.length
  | [], _ => ⟨[], rfl, rfl⟩
  | u :: us, h => by
    obtain ⟨r, rfl⟩ := h u (List.mem_cons_self ..)
    obtain ⟨is, e, l⟩ := ints_of fun v hv => h v (List.mem_cons_of_mem _ hv)
    exact ⟨(r : Int) :: is, by rw [e]; rfl, by simp [l]⟩
theorem putA_new {L : PlL} {x : Str} (h : x ∉ L.map (·.1)) (is : List Int) : putA (plA L) x (isU is) = plA (L ++ [(x, is)]) := by
  unfold putA
  rw [if_neg]
  · unfold plA; rw [List.map_append]; rfl
  · intro z
    rw [List.any_eq_true] at z
    obtain ⟨p, hp, e⟩ := z
    apply h
    rw [← plA_keys, ← of_decide_eq_true e]
    exact List.mem_map.mpr ⟨p, hp, rfl⟩
/-- one name's rows -/
theorem names_turn {L : PlL} (hL : (L.map (·.1)).Nodup) (hne : ∀ p ∈ L, p.2 ≠ [] ∧ p.2.length ≤ 40) (hl : L.length < 10) {x : Str} (hx : x ∉ L.map (·.1)) {n D : Nat} (hD : D ≠ n) (st : Store) (h : Hs n st) (hd : st[D]? = some (mkOb (kv (plA L)))) (s3 s4 s5 s6 s7 s8 s9 s10 s11 s12 : Sl) :
    ∃ is st', is ≠ [] ∧ is.length ≤ 40 ∧ t1_l_drawn [.val (.ref n), .val (.ref D), .val (.str x), s3, s4, s5, s6, s7, s8, s9, s10, s11, s12] st = .nx [.val (.ref n), .val (.ref D), .val (.str x), s3, s4, s5, s6, s7, s8, s9, s10, s11, s12] st' ∧ Hs n st' ∧ st'.length = st.length ∧ st'[D]? = some (mkOb (kv (plA (L ++ [(x, is)])))) ∧ ∀ i, i ≠ n → i ≠ D → st'[i]? = st[i]? := by
  obtain ⟨_, s1, e1, k1, m, rfl, hm⟩ := draw h (show (0 : Int) < 40 by decide) (by decide)
  have rg := rng1_nat (1 + m) (by omega)
  obtain ⟨us, s2, e2, k2, l2, i2⟩ := comp_dr (n := n) (t := tgN 12) (e := appU C.f_l_draw (acons (var 0) (acons (cst (.int 60)) anil))) (env := [.val (.ref n), .val (.ref D), .val (.str x), s3, s4, s5, s6, s7, s8, s9, s10, s11, .un]) (f := fun i : Nat => U.int (i : Nat)) (P := fun u => ∃ r : Nat, u = .int (r : Int)) (List.range (1 + m)) s1 k1.hs fun j hj => ⟨_, rfl, fun st' h' => by
    obtain ⟨_, s9, e9, k9, r, rfl, hr⟩ := draw h' (show (0 : Int) < 60 by decide) (by decide)
    exact ⟨_, s9, by simp [e9], k9, r, rfl⟩⟩
  obtain ⟨is, rfl, li⟩ := ints_of i2
  rw [List.length_range] at l2
  have ln : is.length = 1 + m := by rw [li, l2]
  have k12 := k1.trans k2
  have hd2 := keep_at k12 hD hd
  have pa := putO_mk (plA L) x (isU is) (by unfold plA; rw [List.length_map]; omega)
  rw [putA_new hx] at pa
  refine ⟨is, s2.set D (mkOb (kv (plA (L ++ [(x, is)])))), fun z => by rw [z] at ln; simp at ln; omega, by omega, ?_, ?_, by rw [List.length_set, k12.len], set_at hd2, fun i h1 h2 => by rw [List.getElem?_set_ne (fun z => h2 z.symm), k12.oth i h1]⟩
  · have lz : (is.map U.int).length ≤ 16777216 := by rw [List.length_map]; omega
    have a1 : add2 (.int 1) (.int (m : Int)) = some (.int ((1 + m : Nat) : Int)) := by
      show some (U.int _) = _
      congr 2
    have lr : ((List.range (1 + m)).map fun i => U.int (i : Nat)).length ≤ 16777216 := by simp; omega
    unfold isU at pa
    rw [← draw_eq] at e1 e2
    generalize mkOb (kv (plA (L ++ [(x, is)]))) = O2 at *
    generalize mkOb (kv (plA L)) = O1 at *
    generalize is.map U.int = IS at *
    generalize (List.range (1 + m)).map (fun i => U.int (i : Nat)) = RG at *
    generalize U.int ((1 + m : Nat) : Int) = M1 at *
    unfold t1_l_drawn
    simp [e1, a1, rg, lr, wipeE, e2, lz, hd2, pa, -add_int]
  · obtain ⟨ob, ho, hh⟩ := k12.hs
    exact ⟨ob, by rw [List.getElem?_set_ne hD]; exact ho, hh⟩
end T_allcallers_k40_led_back
namespace T_allcallers_k40_led_back
open PySem L2 D C R G2
/-- a tuple whose last two are a place -/
structure Pt where
  w : Str
  pre : List U
  x : Str
  r : Nat
def Pt.u (p : Pt) : U := .tup (.str p.w :: (p.pre ++ [.str p.x, .int (p.r : Nat)]))
structure PtOk (L : PlL) (p : Pt) : Prop where
  at_ : InL L p.x p.r
  pl : ∀ v ∈ p.pre, Pl 5 v
  len : p.pre.length ≤ 5
def EndOk (L : PlL) (u : U) : Prop := (∃ v, u = .tup [.str (Str.ofString "gives"), v] ∧ Pl 4 v) ∨ ∃ p : Pt, u = p.u ∧ PtOk L p ∧ p.w ≠ Str.ofString "gives"
theorem ev_turn {L : PlL} (hL : LOk L) (h1 : L ≠ []) {n D : Nat} (hD : D ≠ n) (w0 : Str) (evs : List U) (hl : evs.length ≤ 100) (s2 s3 s5 s6 s7 s9 s10 s11 s12 : Sl) (st : Store) (h : Hs n st) (hd : st[D]? = some (mkOb (kv (plA L)))) :
    ∃ (p : Pt) (t11 : Sl) (st' : Store), PtOk L p ∧ Keep n st st' ∧ t2_l_drawn [.val (.ref n), .val (.ref D), s2, s3, .val (.str w0), s5, s6, s7, .own evs, s9, s10, s11, s12] st = .nx [.val (.ref n), .val (.ref D), s2, s3, .val (.str w0), s5, s6, s7, .own (evs ++ [p.u]), s9, s10, t11, s12] st' := by
  obtain ⟨_, s1, e1, k1, a, rfl, ha⟩ := draw h (show (0 : Int) < 2 by decide) (by decide)
  obtain ⟨v, s1', e2, k2, hv⟩ := value_ok hL h1 hD s1 k1.hs (keep_at k1 hD hd)
  obtain ⟨_, s3', e3, k3, b, rfl, hb⟩ := draw k2.hs (show (0 : Int) < 2 by decide) (by decide)
  have K3 := (k1.trans k2).trans k3
  obtain ⟨_, s4, e4, k4, x, r, rfl, hr⟩ := place_ok hL h1 hD s3' k3.hs (keep_at K3 hD hd)
  have q : ∃ (w : Str) (pre : List U), (w = Str.ofString "ask" ∧ pre = [.str w0, .bl (decide (a = 0))] ∨ w = Str.ofString "deed" ∧ pre = [.str w0, v]) ∧ ix2 (.lst [.tup [.str (Str.ofString "ask"), .str w0, .bl (decide (a = 0))], .tup [.str (Str.ofString "deed"), .str w0, v]]) (.int (b : Int)) = some (.tup (.str w :: pre)) := by
    have : b = 0 ∨ b = 1 := by omega
    rcases this with rfl | rfl
    · exact ⟨_, _, .inl ⟨rfl, rfl⟩, rfl⟩
    · exact ⟨_, _, .inr ⟨rfl, rfl⟩, rfl⟩
  obtain ⟨w, pre, hw, hi⟩ := q
  have lp : pre.length = 2 := by rcases hw with ⟨_, rfl⟩ | ⟨_, rfl⟩ <;> rfl
  refine ⟨⟨w, pre, x, r⟩, .val (.tup (.str w :: pre)), s4, ⟨hr, ?_, by show pre.length ≤ 5; omega⟩, K3.trans k4, ?_⟩
  · show ∀ u ∈ pre, Pl 5 u
    rcases hw with ⟨_, rfl⟩ | ⟨_, rfl⟩ <;> intro u hu <;> simp only [List.mem_cons, List.not_mem_nil, or_false] at hu <;> rcases hu with rfl | rfl
    · trivial
    · trivial
    · trivial
    · exact hv.mono (by decide)
  · have hl2 : evs.length < 16777216 := by omega
    have ad : add2 (.tup (.str w :: pre)) (.tup [.str x, .int (r : Nat)]) = some (Pt.u ⟨w, pre, x, r⟩) := by
      rw [add_tups, if_pos (by simp [lp])]; rfl
    rw [← draw_eq] at e1 e3
    generalize Pt.u ⟨w, pre, x, r⟩ = PU at *
    generalize U.tup (.str w :: pre) = WU at *
    generalize U.tup [.str x, .int (r : Nat)] = XU at *
    unfold t2_l_drawn
    simp [e1, e2, e3, e4, szT, szL, hi, ad, hl2, -ix_lst', -add_tups]
theorem pairs_of : ∀ {us : List U}, (∀ u ∈ us, ∃ x v, u = .tup [.str x, v] ∧ Pl 4 v) → ∃ l : List (Str × U), pairKV us = some (kv l) ∧ l.length = us.length ∧ ∀ p ∈ l, Pl 4 p.2
  | [], _ => ⟨[], rfl, rfl, fun _ z => nomatch z⟩
  | u :: us, h => by
    obtain ⟨x, v, rfl, hv⟩ := h _ (List.mem_cons_self ..)
    obtain ⟨l, e, ll, hl⟩ := pairs_of fun w hw => h w (List.mem_cons_of_mem _ hw)
    refine ⟨(x, v) :: l, ?_, by simp [ll], fun p hp => ?_⟩
    · show (match kOf (.str x), pairKV us with | some kk, some l => some ((kk, v) :: l) | _, _ => none) = _
      rw [e]; rfl
    · rcases List.mem_cons.mp hp with rfl | hp
      · exact hv
      · exact hl p hp
theorem merge_kv : ∀ (l acc : List (Str × U)), (acc.map (·.1)).Nodup → (∀ p ∈ acc, Pl 4 p.2) → (∀ p ∈ l, Pl 4 p.2) → ∃ m : List (Str × U), mergeG (kv acc) (kv l) = kv m ∧ m.length ≤ acc.length + l.length ∧ (m.map (·.1)).Nodup ∧ ∀ p ∈ m, Pl 4 p.2
  | [], acc, h1, h2, _ => ⟨acc, rfl, by simp, h1, h2⟩
  | (x, v) :: l, acc, h1, h2, h3 => by
    have e : mergeG (kv acc) (kv ((x, v) :: l)) = mergeG (kv (putA acc x v)) (kv l) := by
      rw [← putG_kv]; rfl
    rw [e]
    have lp : (putA acc x v).length ≤ acc.length + 1 := by
      unfold putA
      split <;> simp
    have hv : Pl 4 v := h3 (x, v) (List.mem_cons_self ..)
    have hq : ∀ p ∈ putA acc x v, Pl 4 p.2 := by
      intro p hp
      unfold putA at hp
      split at hp
      · obtain ⟨q, hq, rfl⟩ := List.mem_map.mp hp
        split
        · exact hv
        · exact h2 q hq
      · rcases List.mem_append.mp hp with z | z
        · exact h2 p z
        · rw [List.mem_singleton] at z; subst z; exact hv
    obtain ⟨m, m1, m2, m3⟩ := merge_kv l (putA acc x v) (putA_keys h1 x v) hq fun p hp => h3 p (List.mem_cons_of_mem _ hp)
    exact ⟨m, m1, by rw [List.length_cons]; omega, m3⟩
abbrev EN (n dd : Nat) (s2 s3 s4 s5 s6 s7 s8 s9 s10 s11 : Sl) : _root_.D.Env := [.val (.ref n), .val (.ref dd), s2, s3, s4, s5, s6, s7, s8, s9, s10, s11, .un]
theorem r2_ok {n : Nat} (st : Store) (h : Hs n st) : ∃ (L : PlL) (s2 : Sl) (st' : Store), LOk L ∧ L ≠ [] ∧ Hs n st' ∧ st'.length = st.length + 1 ∧ st'[st.length]? = some (mkOb (kv (plA L))) ∧ (∀ i, i ≠ n → i < st.length → st'[i]? = st[i]?) ∧
    drS2 (EN n st.length .un .un .un .un .un .un .un .un .un .un) (st ++ [mkOb (kv [])]) = .nx (EN n st.length s2 .un .un .un .un .un .un .un .un .un) st' := by
  have hn : n < st.length := by
    obtain ⟨ob, ho, -⟩ := h
    exact (List.getElem?_eq_some_iff.mp ho).1
  have hD : st.length ≠ n := by omega
  obtain ⟨st1, hst1⟩ : ∃ s : Store, s = st ++ [mkOb (kv [])] := ⟨_, rfl⟩
  rw [← hst1]
  have h1 : Hs n st1 := by
    obtain ⟨ob, ho, hh⟩ := h
    exact ⟨ob, by rw [hst1, List.getElem?_append_left hn]; exact ho, hh⟩
  have hd1 : st1[st.length]? = some (mkOb (kv (plA []))) := by rw [hst1]; simp; rfl
  have l1 : st1.length = st.length + 1 := by rw [hst1]; simp
  obtain ⟨_, s1, e1, k1, a, rfl, ha⟩ := draw h1 (show (0 : Int) < 4 by decide) (by decide)
  obtain ⟨_, s2, e2, k2, ws, rfl, hw⟩ := words_ok n (1 + a) (by omega) s1 k1.hs
  have k12 := k1.trans k2
  obtain ⟨env', st', ef, L, x2, hLk, hLn, rfl, h', l', d', o'⟩ := for_stL (t := tgN 2) (b := t1_l_drawn) (f := U.str) (fun rest env st' => ∃ (L : PlL) (x2 : Sl), L.map (·.1) ++ rest = ws ∧ (∀ p ∈ L, p.2 ≠ [] ∧ p.2.length ≤ 40) ∧ env = EN n st.length x2 .un .un .un .un .un .un .un .un .un ∧ Hs n st' ∧ st'.length = s2.length ∧ st'[st.length]? = some (mkOb (kv (plA L))) ∧ ∀ i, i ≠ n → i ≠ st.length → st'[i]? = s2[i]?) ws (EN n st.length .un .un .un .un .un .un .un .un .un .un) s2
    ⟨[], .un, rfl, fun _ z => (nomatch z), rfl, k2.hs, rfl, keep_at k12 hD hd1, fun _ _ _ => rfl⟩ (fun x r env st2 hx ⟨L, x2, hLk, hLn, he, h2, l2, d2, o2⟩ => by
      have nd := hw.nd
      rw [← hLk] at nd
      have nd1 := (List.nodup_append.mp nd)
      have hxn : x ∉ L.map (·.1) := fun z => nd1.2.2 x z x (List.mem_cons_self ..) rfl
      have hl : L.length < 10 := by
        have := congrArg List.length hLk
        rw [List.length_append, List.length_map, hw.len] at this
        omega
      obtain ⟨is, st3, q1, q2, q3, q4, q5, q6, q7⟩ := names_turn nd1.1 hLn hl hxn hD st2 h2 d2 .un .un .un .un .un .un .un .un .un .un
      refine ⟨[(2, .str x)], _, st3, rfl, by rw [he]; exact q3, L ++ [(x, is)], .val (.str x), ?_, ?_, rfl, q4, by rw [q5, l2], q6, fun i h1 h2 => by rw [q7 i h1 h2, o2 i h1 h2]⟩
      · rw [List.map_append, List.append_assoc]; exact hLk
      · intro p hp
        rcases List.mem_append.mp hp with z | z
        · exact hLn p z
        · rw [List.mem_singleton] at z; subst z; exact ⟨q1, q2⟩)
  rw [List.append_nil] at hLk
  have ll : L.length = 1 + a := by
    have := congrArg List.length hLk
    rw [List.length_map, hw.len] at this
    exact this
  refine ⟨L, x2, st', ⟨by rw [hLk]; exact hw.nd, hLn, by omega⟩, fun z => by rw [z] at ll; simp at ll; omega, h', by rw [l', k12.len, l1], d', fun i h1 h2 => by rw [o' i h1 (by omega), k12.oth i h1, hst1, List.getElem?_append_left h2], ?_⟩
  have a1 : add2 (.int 1) (.int (a : Int)) = some (.int ((1 + a : Nat) : Int)) := by
    show some (U.int _) = _
    congr 2
  have it : items (lS ws) = some (ws.map U.str) := rfl
  rw [← draw_eq] at e1
  rw [← words_eq] at e2
  generalize U.int ((1 + a : Nat) : Int) = M1 at *
  generalize lS ws = WS at *
  generalize ws.map U.str = WL at *
  unfold drS2
  simp [e1, a1, e2, it, ef, -add_int]
theorem drawn_ok {n : Nat} (st : Store) (h : Hs n st) : ∃ (L : PlL) (E : U) (evs : List Pt) (Cs : List (Str × U)) (d : Nat) (st' : Store), LOk L ∧ L ≠ [] ∧ EndOk L E ∧ (∀ p ∈ evs, PtOk L p) ∧ evs.length ≤ 9 ∧ Cs.length ≤ 4 ∧ (Cs.map (·.1)).Nodup ∧ (∀ p ∈ Cs, Pl 4 p.2) ∧
    f_l_drawn [.ref n] st = .ok (.tup [.ref st.length, .tup [E, .lst (evs.map Pt.u), mkD (kv Cs), .int (d : Nat)]]) st' ∧ st'[st.length]? = some (mkOb (kv (plA L))) ∧ (∀ i, i ≠ n → i < st.length → st'[i]? = st[i]?) := by
  have hn : n < st.length := by
    obtain ⟨ob, ho, -⟩ := h
    exact (List.getElem?_eq_some_iff.mp ho).1
  have hD : st.length ≠ n := by omega
  obtain ⟨L, x2, s2, hL, hL1, h2, l2, d2, o2, r2⟩ := r2_ok st h
  obtain ⟨DD, hDD⟩ : ∃ d, d = st.length := ⟨_, rfl⟩
  have r1 : drS1 [.val (.ref n), .un, .un, .un, .un, .un, .un, .un, .un, .un, .un, .un, .un] st = .nx (EN n st.length .un .un .un .un .un .un .un .un .un .un) (st ++ [mkOb (kv [])]) := by
    unfold drS1
    simp
    rfl
  obtain ⟨_, s3, e3, k3, x, r, rfl, hr⟩ := place_ok hL hL1 hD s2 h2 d2
  have r3 : drS3 (EN n st.length x2 .un .un .un .un .un .un .un .un .un) s2 = .nx (EN n st.length x2 (.val (.tup [.str x, .int (r : Nat)])) .un .un .un .un .un .un .un .un) s3 := by
    unfold drS3
    simp [e3]
  have d3 := keep_at k3 hD d2
  have e0 := dictAt_mk d3
  have es := sortDk_pl hL
  have lk : (sortS (L.map (·.1))).length = L.length := by rw [(sort_perm _).length_eq, List.length_map]
  have l0 : 0 < L.length := List.length_pos_iff.mpr hL1
  obtain ⟨w0, hw0⟩ : ∃ w, (sortS (L.map (·.1)))[0]? = some w := ⟨_, List.getElem?_eq_getElem (by omega)⟩
  have r4 : drS4 (EN n st.length x2 (.val (.tup [.str x, .int (r : Nat)])) .un .un .un .un .un .un .un .un) s3 = .nx (EN n st.length x2 (.val (.tup [.str x, .int (r : Nat)])) (.val (.str w0)) .un .un .un .un .un .un .un) s3 := by
    have hi : ix2 (.lst ((sortS (L.map (·.1))).map U.str)) (.int 0) = some (.str w0) := by
      rw [ix_lst', atI_lit, List.getElem?_map, hw0]; rfl
    generalize (sortS (L.map (·.1))).map U.str = KS at *
    generalize kv (plA L) = KV at *
    unfold drS4
    simp [e0, es, hi, -ix_lst']
  obtain ⟨v, s5, e5, k5, hv⟩ := value_ok hL hL1 hD s3 k3.hs d3
  have r5 : drS5 (EN n st.length x2 (.val (.tup [.str x, .int (r : Nat)])) (.val (.str w0)) .un .un .un .un .un .un .un) s3 = .nx (EN n st.length x2 (.val (.tup [.str x, .int (r : Nat)])) (.val (.str w0)) (.val v) .un .un .un .un .un .un) s5 := by
    unfold drS5
    simp [e5]
  obtain ⟨EL, hEL⟩ : ∃ l : List U, l = [.tup [.str (Str.ofString "gives"), v], .tup [.str (Str.ofString "refused"), .str w0, .str x, .int (r : Nat)], .tup [.str (Str.ofString "spent"), .str x, .int (r : Nat)], .tup [.str (Str.ofString "stuck"), .str (Str.ofString "many"), .str x, .int (r : Nat)]] := ⟨_, rfl⟩
  have r6 : drS6 (EN n st.length x2 (.val (.tup [.str x, .int (r : Nat)])) (.val (.str w0)) (.val v) .un .un .un .un .un .un) s5 = .nx (EN n st.length x2 (.val (.tup [.str x, .int (r : Nat)])) (.val (.str w0)) (.val v) (.val (.lst EL)) .un .un .un .un .un) s5 := by
    rw [hEL]
    unfold drS6
    simp [szT, szL]
  obtain ⟨_, s7, e7, k7, z, rfl, hz⟩ := draw k5.hs (show (0 : Int) < 4 by decide) (by decide)
  obtain ⟨E, hE, hEi⟩ := pick EL (z : Int) (by omega) (by rw [hEL]; exact hz)
  have hEo : EndOk L E := by
    rw [hEL] at hE
    simp only [List.mem_cons, List.not_mem_nil, or_false] at hE
    rcases hE with rfl | rfl | rfl | rfl
    · exact .inl ⟨v, rfl, hv⟩
    · exact .inr ⟨⟨_, [.str w0], x, r⟩, rfl, ⟨hr, fun u hu => by rw [List.mem_singleton] at hu; subst hu; trivial, by show 1 ≤ 5; decide⟩, by show Str.ofString "refused" ≠ Str.ofString "gives"; decide +kernel⟩
    · exact .inr ⟨⟨_, [], x, r⟩, rfl, ⟨hr, fun u hu => (nomatch hu), by show 0 ≤ 5; decide⟩, by show Str.ofString "spent" ≠ Str.ofString "gives"; decide +kernel⟩
    · exact .inr ⟨⟨_, [.str (Str.ofString "many")], x, r⟩, rfl, ⟨hr, fun u hu => by rw [List.mem_singleton] at hu; subst hu; trivial, by show 1 ≤ 5; decide⟩, by show Str.ofString "stuck" ≠ Str.ofString "gives"; decide +kernel⟩
  have r7 : drS7 (EN n st.length x2 (.val (.tup [.str x, .int (r : Nat)])) (.val (.str w0)) (.val v) (.val (.lst EL)) .un .un .un .un .un) s5 = .nx (EN n st.length x2 (.val (.tup [.str x, .int (r : Nat)])) (.val (.str w0)) (.val v) (.val (.lst EL)) (.val E) .un .un .un .un) s7 := by
    have hEi : ix2 (.lst EL) (.int (z : Int)) = some E := hEi
    rw [← draw_eq] at e7
    clear hEL
    generalize U.lst EL = EU at *
    unfold drS7
    simp [e7, hEi, -ix_lst']
  have K7 := (k3.trans k5).trans k7
  have r8 : drS8 (EN n st.length x2 (.val (.tup [.str x, .int (r : Nat)])) (.val (.str w0)) (.val v) (.val (.lst EL)) (.val E) .un .un .un .un) s7 = .nx (EN n st.length x2 (.val (.tup [.str x, .int (r : Nat)])) (.val (.str w0)) (.val v) (.val (.lst EL)) (.val E) (.own []) .un .un .un) s7 := by
    unfold drS8
    simp
  obtain ⟨_, s8, e8, k8, m, rfl, hm⟩ := draw k7.hs (show (0 : Int) < 10 by decide) (by decide)
  have rg := rng1_nat m (by omega)
  have d8 := keep_at (K7.trans k8) hD d2
  obtain ⟨env9, s9, e9, evs, x9, x11, l9, ok9, rfl, k9⟩ := for_stL (t := tgN 9) (b := t2_l_drawn) (f := fun i : Nat => U.int (i : Nat)) (fun rest env st' => ∃ (evs : List Pt) (x9 x11 : Sl), evs.length + rest.length = m ∧ (∀ p ∈ evs, PtOk L p) ∧ env = EN n st.length x2 (.val (.tup [.str x, .int (r : Nat)])) (.val (.str w0)) (.val v) (.val (.lst EL)) (.val E) (.own (evs.map Pt.u)) x9 .un x11 ∧ Keep n s8 st') (List.range m) _ s8
    ⟨[], .un, .un, by simp, fun _ z => (nomatch z), rfl, .refl k8.hs⟩ (fun i rest env st' hi ⟨evs, x9, x11, l9, ok9, he, k9⟩ => by
      rw [List.length_cons] at l9
      obtain ⟨p, t11, st2, po, k10, e10⟩ := ev_turn hL hL1 hD w0 (evs.map Pt.u) (by rw [List.length_map]; omega) x2 (.val (.tup [.str x, .int (r : Nat)])) (.val v) (.val (.lst EL)) (.val E) (.val (.int (i : Nat))) .un x11 .un st' k9.hs (keep_at k9 hD d8)
      refine ⟨[(9, .int (i : Nat))], _, st2, rfl, by rw [he]; exact e10, evs ++ [p], .val (.int (i : Nat)), t11, by simp; omega, ?_, by rw [List.map_append]; rfl, k9.trans k10⟩
      intro q hq
      rcases List.mem_append.mp hq with z | z
      · exact ok9 q z
      · rw [List.mem_singleton] at z; subst z; exact po)
  rw [List.length_nil, Nat.add_zero] at l9
  have r9 : drS9 (EN n st.length x2 (.val (.tup [.str x, .int (r : Nat)])) (.val (.str w0)) (.val v) (.val (.lst EL)) (.val E) (.own []) .un .un .un) s7 = .nx (EN n st.length x2 (.val (.tup [.str x, .int (r : Nat)])) (.val (.str w0)) (.val v) (.val (.lst EL)) (.val E) (.own (evs.map Pt.u)) x9 .un x11) s9 := by
    rw [← draw_eq] at e8
    generalize (List.range m).map (fun i => U.int (i : Nat)) = RG at *
    generalize evs.map Pt.u = EV at *
    clear hEL
    generalize U.lst EL = EU at *
    unfold drS9
    simp only [List.map_nil] at e9
    simp [e8, rg, e9]
  have K9 := (K7.trans k8).trans k9
  obtain ⟨_, s10, e10, k10, c, rfl, hc⟩ := draw k9.hs (show (0 : Int) < 4 by decide) (by decide)
  have d9 := keep_at K9 hD d2
  have d10 := keep_at k10 hD d9
  obtain ⟨us, s11, e11, k11, l11, p11⟩ := comp_drK (n := n) (t := tgN 2) (e := appN szT (acons (var 2) (acons (appU f_l_value (acons (var 0) (acons (var 1) anil))) anil))) (env := EN n st.length .un (.val (.tup [.str x, .int (r : Nat)])) (.val (.str w0)) (.val v) (.val (.lst EL)) (.val E) (.own (evs.map Pt.u)) x9 .un x11) (f := U.str) (P := fun u => ∃ y w, u = .tup [.str y, w] ∧ Pl 4 w) ((sortS (L.map (·.1))).take c) s10 k10.hs fun y hy => ⟨_, rfl, fun st' k => by
    obtain ⟨w, s, e, k', hw⟩ := value_ok hL hL1 hD st' k.hs (keep_at k hD d10)
    exact ⟨_, s, by simp [e, szT], k', y, w, rfl, hw⟩⟩
  obtain ⟨lp, hlp, llp, plp⟩ := pairs_of p11
  obtain ⟨Cs, hCs, lC, ndC, plC⟩ := merge_kv lp [] List.nodup_nil (fun _ z => nomatch z) plp
  have hCs : mergeG [] (kv lp) = kv Cs := hCs
  have lC : Cs.length ≤ 4 := by
    have := hL.len
    rw [List.length_take] at l11
    simp only [List.length_nil, Nat.zero_add] at lC
    omega
  have r10 : drS10 (EN n st.length x2 (.val (.tup [.str x, .int (r : Nat)])) (.val (.str w0)) (.val v) (.val (.lst EL)) (.val E) (.own (evs.map Pt.u)) x9 .un x11) s9 = .nx (EN n st.length x2 (.val (.tup [.str x, .int (r : Nat)])) (.val (.str w0)) (.val v) (.val (.lst EL)) (.val E) (.own (evs.map Pt.u)) x9 (.val (mkD (kv Cs))) x11) s11 := by
    have e0 := dictAt_mk d9
    have lt : ((sortS (L.map (·.1))).take c).length ≤ 100 := by rw [List.length_take]; omega
    have mt : ((sortS (L.map (·.1))).map U.str).take c = ((sortS (L.map (·.1))).take c).map U.str := by rw [List.map_take]
    have lt2 : (((sortS (L.map (·.1))).take c).map U.str).length ≤ 16777216 := by rw [List.length_map]; omega
    have lus : us.length ≤ 16777216 := by omega
    rw [← draw_eq] at e10
    rw [← mt] at e11 lt2
    clear hEL mt lt l11
    generalize (sortS (L.map (·.1))).map U.str = KS at *
    generalize kv (plA L) = KV at *
    rw [List.length_take] at lt2
    generalize kv Cs = CK at *
    generalize evs.map Pt.u = EV at *
    generalize U.lst EL = EU at *
    unfold drS10
    simp [e0, es, e10, wipeE, e11, lt2, hlp, hCs]
  have K11 := (K9.trans k10).trans k11
  have d11 := keep_at K11 hD d2
  obtain ⟨_, s12, e12, k12, d, rfl, hd12⟩ := draw k11.hs (show (0 : Int) < 60 by decide) (by decide)
  have K12 := K11.trans k12
  refine ⟨L, E, evs, Cs, 1 + d, s12, hL, hL1, hEo, ok9, by omega, lC, ndC, plC, ?_, keep_at K12 hD d2, fun i h1 h2 => by rw [K12.oth i h1, o2 i h1 h2]⟩
  have r11 : drS11 (EN n st.length x2 (.val (.tup [.str x, .int (r : Nat)])) (.val (.str w0)) (.val v) (.val (.lst EL)) (.val E) (.own (evs.map Pt.u)) x9 (.val (mkD (kv Cs))) x11) s11 = .rt (.tup [.ref st.length, .tup [E, .lst (evs.map Pt.u), mkD (kv Cs), .int ((1 + d : Nat) : Int)]]) s12 := by
    have a1 : add2 (.int 1) (.int (d : Int)) = some (.int ((1 + d : Nat) : Int)) := by
      show some (U.int _) = _
      congr 2
    have lev : (evs.map Pt.u).length ≤ 16777216 := by rw [List.length_map]; omega
    rw [← draw_eq] at e12
    clear hEL
    generalize mkD (kv Cs) = CU at *
    generalize evs.map Pt.u = EV at *
    generalize U.lst EL = EU at *
    generalize U.int ((1 + d : Nat) : Int) = M1 at *
    unfold drS11
    simp [frzE, frz1, e12, a1, szT, lev, -add_int]
  have key : b_l_drawn [.val (.ref n), .un, .un, .un, .un, .un, .un, .un, .un, .un, .un, .un, .un] st = .rt (.tup [.ref st.length, .tup [E, .lst (evs.map Pt.u), mkD (kv Cs), .int ((1 + d : Nat) : Int)]]) s12 := by
    rw [drS_eq, chain r1, chain r2, chain r3, chain r4, chain r5, chain r6, chain r7, chain r8, chain r9, chain r10, sSeq_ap, r11]
    rfl
  generalize mkD (kv Cs) = CU at *
  generalize evs.map Pt.u = EV at *
  unfold f_l_drawn
  simp [key, fin]
end T_allcallers_k40_led_back
namespace T_allcallers_k40_led_back
open PySem L2 D C R G2
def lwS1 : DS := (sUnp (tgA [6, 7]) (zD (appU f_l_drawn (acons (appU f_l_hand (acons (var 0) (acons (var 1) anil))) anil))))
def lwS2 : DS := (sSet 2 (appU f_l_due (acons (var 6) (acons (var 7) anil))))
def lwS3 : DS := (sSet 3 (newD (prsK (newL (compK 6 [8] (tgN 8) yesT (appN szT (acons (var 8) (acons (newL (itA lstL (acons (ixG (var 6) (var 8)) anil))) anil))))))))
def lwS4 : DS := (sSet 4 (appN szT (acons (bin ix2 (var 7) (cst (.int 0))) (acons (newL (itA lstL (acons (bin ix2 (var 7) (cst (.int 1))) anil))) (acons (newD (cpyK (bin ix2 (var 7) (cst (.int 2))))) (acons (bin ix2 (var 7) (cst (.int 3))) anil))))))
def lwS5 : DS := (sSet 5 (appU f_led_back (acons (var 6) (acons (var 4) anil))))
def lwS6 : DS := (sIf (orT (notT (tst (appN isiN (acons (var 5) (acons (cst (.ty "tuple")) anil))))) (orT (tst (binW ne3 (var 5) (var 2))) (orT (tst (bin ne3 (var 4) (var 7))) (tst (bin ne3 (var 6) (var 3)))))) (sSeq (sRet (cst (.bl false))) sNil) sNil)
def lwS7 : DS := (sAppR (bin ix2 (var 5) (cst (.int 1))) (cst .non))
def lwS8 : DS := (sPutG (bin ix2 (var 5) (cst (.int 2))) (cst (.str (Str.ofString "zz"))) (cst (.int 1)))
def lwS9 : DS := (sIf (orT (tst (bin ne3 (var 4) (var 7))) (tst (binW ne3 (appU f_led_back (acons (var 6) (acons (var 4) anil))) (var 2)))) (sSeq (sRet (cst (.bl false))) sNil) sNil)
theorem lwS_eq : t1_law = sSeq lwS1 (sSeq lwS2 (sSeq lwS3 (sSeq lwS4 (sSeq lwS5 (sSeq lwS6 (sSeq lwS7 (sSeq lwS8 (sSeq lwS9 sNil)))))))) := rfl
theorem pl_places {L : PlL} (h : LOk L) : Pl 4 (mkD (kv (plA L))) := by
  refine pl_mk (n := 3) (by rw [plA_keys]; exact h.nd) fun p hp => ?_
  obtain ⟨q, hq, rfl⟩ := List.mem_map.mp hp
  intro u hu
  obtain ⟨i, hi, rfl⟩ := List.mem_map.mp hu
  trivial
theorem pt_pl {L : PlL} {p : Pt} (h : PtOk L p) : Pl 6 p.u := by
  intro u hu
  rcases List.mem_cons.mp hu with rfl | hu
  · trivial
  · rcases List.mem_append.mp hu with hu | hu
    · exact h.pl u hu
    · simp only [List.mem_cons, List.not_mem_nil, or_false] at hu
      rcases hu with rfl | rfl <;> trivial
theorem end_pl {L : PlL} {E : U} (h : EndOk L E) : Pl 6 E := by
  rcases h with ⟨v, rfl, hv⟩ | ⟨p, rfl, hp, -⟩
  · intro u hu
    simp only [List.mem_cons, List.not_mem_nil, or_false] at hu
    rcases hu with rfl | rfl
    · trivial
    · exact hv.mono (by decide)
  · exact pt_pl hp
structure ToldOk (L : PlL) (E : U) (evs : List Pt) (Cs : List (Str × U)) (d : Nat) : Prop where
  pl : LOk L
  en : EndOk L E
  ev : ∀ p ∈ evs, PtOk L p
  el : evs.length ≤ 9
  cl : Cs.length ≤ 4
  nd : (Cs.map (·.1)).Nodup
  cp : ∀ p ∈ Cs, Pl 4 p.2
def toldU (E : U) (evs : List U) (Cs : List (Str × U)) (d : Nat) : U := .tup [E, .lst evs, mkD (kv Cs), .int (d : Nat)]
theorem told_pl {E : U} {evs : List U} {Cs : List (Str × U)} {d : Nat} (h1 : Pl 6 E) (h2 : ∀ u ∈ evs, Pl 6 u) (h3 : (Cs.map (·.1)).Nodup) (h4 : ∀ p ∈ Cs, Pl 4 p.2) : Pl 8 (toldU E evs Cs d) := by
  intro u hu
  simp only [List.mem_cons, List.not_mem_nil, or_false] at hu
  rcases hu with rfl | rfl | rfl | rfl
  · exact h1.mono (by decide)
  · exact h2
  · exact (pl_mk (n := 4) h3 h4).mono (by decide)
  · trivial
theorem drawn_zd (ns : List Int) (k : Nat) (hk : k ≤ 1000000) (st : Store) (hl : Low st) : ∃ (L : PlL) (E : U) (evs : List Pt) (Cs : List (Str × U)) (d : Nat), ToldOk L E evs Cs d ∧ ∀ s2 s3 s4 s5 s6 s7 s8,
    zD (appU f_l_drawn (acons (appU f_l_hand (acons (var 0) (acons (var 1) anil))) anil)) [.val (.scr ns), .val (.int (k : Nat)), s2, s3, s4, s5, s6, s7, s8] st = .ok (.tup [mkD (kv (plA L)), toldU E (evs.map Pt.u) Cs d]) st := by
  obtain ⟨ob, e1, ho⟩ := hand_ok ns k hk st
  have hs : Hs st.length (st ++ [ob]) := ⟨ob, by simp, ho⟩
  obtain ⟨L, E, evs, Cs, d, st', hL, hL1, hE, hev, hel, hcl, hnd, hcp, e2, hd, hoth⟩ := drawn_ok (st ++ [ob]) hs
  have ok : ToldOk L E evs Cs d := ⟨hL, hE, hev, hel, hcl, hnd, hcp⟩
  refine ⟨L, E, evs, Cs, d, ok, fun s2 s3 s4 s5 s6 s7 s8 => ?_⟩
  have tk : st'.take st.length = st := by
    apply List.ext_getElem?
    intro i
    by_cases hi : i < st.length
    · rw [List.getElem?_take_of_lt hi, hoth i (by omega) (by simp; omega), List.getElem?_append_left hi]
    · rw [List.getElem?_eq_none (by rw [List.length_take]; omega), List.getElem?_eq_none (by omega)]
  have pe : ∀ u ∈ evs.map Pt.u, Pl 6 u := fun u hu => by
    obtain ⟨p, hp, rfl⟩ := List.mem_map.mp hu
    exact pt_pl (hev p hp)
  have pt : Pl 8 (toldU E (evs.map Pt.u) Cs d) := told_pl (end_pl hE) pe hnd hcp
  have dn : derN 12 st.length st' (.tup [.ref (st ++ [ob]).length, toldU E (evs.map Pt.u) Cs d]) = .tup [mkD (kv (plA L)), toldU E (evs.map Pt.u) Cs d] := by
    unfold derN
    rw [List.map_cons, List.map_cons, List.map_nil, derN_pl pt]
    have : derN 11 st.length st' (.ref (st ++ [ob]).length) = mkD (kv (plA L)) := by
      unfold derN
      rw [if_neg (by simp), hd]
      show U.dct _ (((kv (plA L)).map (·.2)).map _) = U.dct _ _
      congr 1
      refine map_self fun u hu => ?_
      obtain ⟨p, hp, rfl⟩ := List.mem_map.mp hu
      obtain ⟨q, hq, rfl⟩ := List.mem_map.mp hp
      obtain ⟨z, hz, rfl⟩ := List.mem_map.mp hq
      have pz : Pl 2 (isU z.2) := fun w hw => by
        obtain ⟨i, hi, rfl⟩ := List.mem_map.mp hw
        trivial
      exact derN_pl pz _ _ _
    rw [this]
  have nr : noRef (.tup [mkD (kv (plA L)), toldU E (evs.map Pt.u) Cs d]) = true := Pl.noRef (n := 9) fun u hu => by
    simp only [List.mem_cons, List.not_mem_nil, or_false] at hu
    rcases hu with rfl | rfl
    · exact (pl_places hL).mono (by decide)
    · exact pt
  have cz := cutZ_of dn nr (by rw [tk]; exact hl)
  rw [tk] at cz
  rw [← hand_eq] at e1
  have e2 : f_l_drawn [.ref st.length] (st ++ [ob]) = .ok (.tup [.ref (st ++ [ob]).length, toldU E (evs.map Pt.u) Cs d]) st' := e2
  rw [zD_ap]
  have : appU f_l_drawn (acons (appU f_l_hand (acons (var 0) (acons (var 1) anil))) anil) [.val (.scr ns), .val (.int (k : Nat)), s2, s3, s4, s5, s6, s7, s8] st = .ok (.tup [.ref (st ++ [ob]).length, toldU E (evs.map Pt.u) Cs d]) st' := by
    generalize toldU E (evs.map Pt.u) Cs d = TU at *
    simp only [appU_ap, acons_ap, var_succ, var_zero, anil_ap, bind_ok, e1, e2]
  rw [this]
  exact cz
def look (L : PlL) (x : Str) (r : Nat) : Int := (((L.find? fun p => decide (p.1 = x)).map (·.2)).getD []).getD r 0
theorem look_at {L : PlL} (h : LOk L) {x : Str} {is : List Int} (hm : (x, is) ∈ L) {r : Nat} (hr : r < is.length) : is[r]? = some (look L x r) := by
  have : L.find? (fun p => decide (p.1 = x)) = some (x, is) := by
    have nd := h.nd
    clear h
    induction L with
    | nil => cases hm
    | cons p L ih =>
      rw [List.map_cons, List.nodup_cons] at nd
      rcases List.mem_cons.mp hm with rfl | hm
      · rw [List.find?_cons_of_pos (by simp)]
      · rw [List.find?_cons_of_neg (by
          simp only [decide_eq_true_eq]
          intro e
          exact nd.1 (by rw [e]; exact List.mem_map.mpr ⟨_, hm, rfl⟩))]
        exact ih hm nd.2
  unfold look
  rw [this]
  show is[r]? = some (is.getD r 0)
  rw [List.getD_eq_getElem?_getD, List.getElem?_eq_getElem hr]; rfl
def back (L : PlL) (p : Pt) : U := .tup (.str p.w :: (p.pre ++ [.str p.x, .int (look L p.x p.r)]))
theorem back_pl {L : PlL} {p : Pt} (h : PtOk L p) : Pl 6 (back L p) := by
  intro u hu
  rcases List.mem_cons.mp hu with rfl | hu
  · trivial
  · rcases List.mem_append.mp hu with hu | hu
    · exact h.pl u hu
    · simp only [List.mem_cons, List.not_mem_nil, or_false] at hu
      rcases hu with rfl | rfl <;> trivial
section
variable {L : PlL} {p : Pt}
theorem pt_sl : sl3 p.u none (some (-1)) = some (.tup (.str p.w :: (p.pre ++ [.str p.x]))) := by
  unfold Pt.u
  rw [D.sl_tup, cutL_toN]
  congr 2
  rw [← List.cons_append, show [U.str p.x, U.int (p.r : Nat)] = [U.str p.x] ++ [U.int (p.r : Nat)] from rfl, ← List.append_assoc, List.dropLast_concat]
  rfl
theorem pt_1 : ix2 p.u (.int (-1)) = some (.int (p.r : Nat)) := by
  unfold Pt.u
  rw [ix_tup', atI_neg1]
  rw [← List.cons_append, show [U.str p.x, U.int (p.r : Nat)] = [U.str p.x] ++ [U.int (p.r : Nat)] from rfl, ← List.append_assoc, List.getLast?_concat]
theorem pt_2 : ix2 p.u (.int (-2)) = some (.str p.x) := by
  unfold Pt.u
  rw [ix_tup']
  have := atI_neg (U.str p.w :: (p.pre ++ [U.str p.x, U.int (p.r : Nat)])) 1 (by simp)
  have this : atI (U.str p.w :: (p.pre ++ [U.str p.x, U.int (p.r : Nat)])) (-2) = _ := this
  refine Eq.trans this ?_
  rw [← List.cons_append]
  rw [List.getElem?_append_right (by simp)]
  have : (U.str p.w :: p.pre ++ [U.str p.x, U.int (p.r : Nat)]).length - (1 + 1) - (U.str p.w :: p.pre).length = 0 := by simp
  rw [this]; rfl
theorem pt_0 : ix2 p.u (.int 0) = some (.str p.w) := by
  unfold Pt.u
  rw [ix_tup', atI_lit]; rfl
theorem add_back (h : PtOk L p) : add2 (.tup (.str p.w :: (p.pre ++ [.str p.x]))) (.tup [.int (look L p.x p.r)]) = some (back L p) := by
  have := h.len
  rw [add_tups, if_pos (by simp; omega)]
  unfold back
  rw [List.cons_append, List.append_assoc]; rfl
theorem place_back_ev (hL : LOk L) (h : PtOk L p) (st : Store) : f_place_back [mkD (kv (plA L)), p.u] st = .ok (back L p) st := by
  obtain ⟨is, hm, hr⟩ := h.at_
  have e1 := pt_sl (p := p)
  have e2 := pt_1 (p := p)
  have e3 := pt_2 (p := p)
  have e4 := getU_dct hL (st := st) hm
  have e5 : ix2 (isU is) (.int (p.r : Nat)) = some (.int (look L p.x p.r)) := by
    unfold isU
    rw [ix_lst', atI_cast, List.getElem?_map, look_at hL hm hr]; rfl
  have e6 := add_back h
  generalize mkD (kv (plA L)) = PD at *
  generalize isU is = IU at *
  generalize p.u = PU at *
  generalize back L p = BU at *
  unfold f_place_back b_place_back
  simp [e1, e2, e3, e4, e5, e6, szT, fin, -add_tups]
end
end T_allcallers_k40_led_back
namespace T_allcallers_k40_led_back
open PySem L2 D C R G2
section
variable {L : PlL} {E : U} {evs : List Pt} {Cs : List (Str × U)} {d : Nat}
theorem due_ev (h : ToldOk L E evs Cs d) : ∃ E', Pl 6 E' ∧ (∀ st, f_l_due [mkD (kv (plA L)), toldU E (evs.map Pt.u) Cs d] st = .ok (toldU E' (evs.map (back L)) Cs d) st) ∧
    ∀ st, f_led_back [mkD (kv (plA L)), toldU E (evs.map Pt.u) Cs d] st = .ok (.tup [E', .ref st.length, .ref (st.length + 1), .int (d : Nat)]) (st ++ [.lst (evs.map (back L)), mkOb (kv Cs)]) := by
  have tg : tgA [2, 3, 4, 5] (toldU E (evs.map Pt.u) Cs d) = some [(2, E), (3, .lst (evs.map Pt.u)), (4, mkD (kv Cs)), (5, .int (d : Nat))] := rfl
  have le : (evs.map Pt.u).length ≤ 16777216 := by rw [List.length_map]; have := h.el; omega
  have lb : (evs.map (back L)).length ≤ 16777216 := by rw [List.length_map]; have := h.el; omega
  have c1 : ∀ (E2 : U) (st : Store), compL (tgN 6) yesT (D.bin add2 (slD (var 6) noO (soO (neg1D (cst (.int 1))))) (appN szT (acons (D.bin ix2 (ixG (var 0) (D.bin ix2 (var 6) (neg1D (cst (.int 2))))) (D.bin ix2 (var 6) (neg1D (cst (.int 1))))) anil))) (evs.map Pt.u) [.val (mkD (kv (plA L))), .val (toldU E (evs.map Pt.u) Cs d), .val E2, .val (.lst (evs.map Pt.u)), .val (mkD (kv Cs)), .val (.int (d : Nat)), .un] st = .ok (evs.map (back L)) st := fun E2 st =>
    comp_allM evs fun p hp => ⟨_, rfl, by
      have := place_back_ev h.pl (h.ev p hp) st
      unfold f_place_back b_place_back at this
      obtain ⟨is, hm, hr⟩ := (h.ev p hp).at_
      have e1 := pt_sl (p := p)
      have e2 := pt_1 (p := p)
      have e3 := pt_2 (p := p)
      have e4 := getU_dct h.pl (st := st) hm
      have e5 : ix2 (isU is) (.int (p.r : Nat)) = some (.int (look L p.x p.r)) := by
        unfold isU
        rw [ix_lst', atI_cast, List.getElem?_map, look_at h.pl hm hr]; rfl
      have e6 := add_back (h.ev p hp)
      generalize evs.map Pt.u = EV at *
      generalize toldU E EV Cs d = TU at *
      generalize mkD (kv (plA L)) = PD at *
      generalize isU is = IU at *
      generalize p.u = PU at *
      generalize back L p = BU at *
      simp [e1, e2, e3, e4, e5, e6, szT, -add_tups]⟩
  have c2 : ∀ (E2 : U) (st : Store), compL (tgN 6) yesT (appU f_place_back (acons (var 0) (acons (var 6) anil))) (evs.map Pt.u) [.val (mkD (kv (plA L))), .val (toldU E (evs.map Pt.u) Cs d), .val E2, .val (.lst (evs.map Pt.u)), .val (mkD (kv Cs)), .val (.int (d : Nat)), .un] st = .ok (evs.map (back L)) st := fun E2 st =>
    comp_allM evs fun p hp => ⟨_, rfl, by
      have := place_back_ev h.pl (h.ev p hp) st
      generalize evs.map Pt.u = EV at *
      generalize toldU E EV Cs d = TU at *
      generalize mkD (kv (plA L)) = PD at *
      generalize p.u = PU at *
      simp [this]⟩
  have dc : ∀ st, dictAt st (mkD (kv Cs)) = some (kv Cs) := fun st => by
    show kvsOf _ _ = _
    rw [kvs_mk]
  rcases h.en with ⟨v, rfl, hv⟩ | ⟨p, rfl, hp, hw⟩
  · refine ⟨.tup [.str (Str.ofString "gives"), v], fun u hu => ?_, fun st => ?_, fun st => ?_⟩
    · simp only [List.mem_cons, List.not_mem_nil, or_false] at hu
      rcases hu with rfl | rfl
      · trivial
      · exact hv.mono (by decide)
    · have c1 := c1 (.tup [.str (Str.ofString "gives"), v]) st
      have e0 : ix2 (.tup [.str (Str.ofString "gives"), v]) (.int 0) = some (.str (Str.ofString "gives")) := rfl
      unfold toldU at *
      generalize U.tup [.str (Str.ofString "gives"), v] = EU at *
      generalize evs.map Pt.u = EV at *
      generalize evs.map (back L) = BV at *
      generalize mkD (kv (plA L)) = PD at *
      generalize mkD (kv Cs) = CD at *
      generalize hTU : U.tup [EU, .lst EV, CD, .int (d : Nat)] = TU at *
      unfold f_l_due b_l_due
      simp [sUnp, tg, e0, le, wipeE, c1, szT, lb, fin]
    · have c2 := c2 (.tup [.str (Str.ofString "gives"), v]) st
      have e0 : ix2 (.tup [.str (Str.ofString "gives"), v]) (.int 0) = some (.str (Str.ofString "gives")) := rfl
      unfold toldU at *
      generalize U.tup [.str (Str.ofString "gives"), v] = EU at *
      generalize evs.map Pt.u = EV at *
      generalize evs.map (back L) = BV at *
      generalize mkD (kv (plA L)) = PD at *
      generalize mkD (kv Cs) = CD at *
      generalize hTU : U.tup [EU, .lst EV, CD, .int (d : Nat)] = TU at *
      generalize kv Cs = CK at *
      unfold f_led_back b_led_back
      simp [sUnp, tg, e0, le, wipeE, c2, szT, lb, dc, fin]
  · obtain ⟨is, hm, hr⟩ := hp.at_
    have e1 := pt_sl (p := p)
    have e2 := pt_1 (p := p)
    have e3 := pt_2 (p := p)
    have e5 : ix2 (isU is) (.int (p.r : Nat)) = some (.int (look L p.x p.r)) := by
      unfold isU
      rw [ix_lst', atI_cast, List.getElem?_map, look_at h.pl hm hr]; rfl
    have e6 := add_back hp
    have e0 := pt_0 (p := p)
    refine ⟨back L p, back_pl hp, fun st => ?_, fun st => ?_⟩
    · have c1 := c1 (back L p) st
      have e4 := getU_dct h.pl (st := st) hm
      unfold toldU at *
      generalize p.u = EU at *
      generalize evs.map Pt.u = EV at *
      generalize evs.map (back L) = BV at *
      generalize back L p = BU at *
      generalize isU is = IU at *
      generalize mkD (kv (plA L)) = PD at *
      generalize mkD (kv Cs) = CD at *
      generalize hTU : U.tup [EU, .lst EV, CD, .int (d : Nat)] = TU at *
      unfold f_l_due b_l_due
      simp [sUnp, tg, e0, hw, e1, e2, e3, e4, e5, e6, le, wipeE, c1, szT, lb, fin, -add_tups]
    · have c2 := c2 (back L p) st
      have pb := place_back_ev h.pl hp st
      unfold toldU at *
      generalize p.u = EU at *
      generalize evs.map Pt.u = EV at *
      generalize evs.map (back L) = BV at *
      generalize back L p = BU at *
      generalize mkD (kv (plA L)) = PD at *
      generalize mkD (kv Cs) = CD at *
      generalize hTU : U.tup [EU, .lst EV, CD, .int (d : Nat)] = TU at *
      generalize kv Cs = CK at *
      unfold f_led_back b_led_back
      simp [sUnp, tg, e0, hw, pb, le, wipeE, c2, szT, lb, dc, fin]
end
end T_allcallers_k40_led_back
namespace T_allcallers_k40_led_back
open PySem L2 D C R G2
section
variable {L : PlL} {E E' : U} {evs : List Pt} {Cs : List (Str × U)} {d : Nat}
theorem merge_self : ∀ (l acc : List (Str × U)), ((acc ++ l).map (·.1)).Nodup → mergeG (kv acc) (kv l) = kv (acc ++ l)
  | [], acc, _ => by rw [List.append_nil]; rfl
  | (x, v) :: l, acc, h => by
    have e : mergeG (kv acc) (kv ((x, v) :: l)) = mergeG (kv (putA acc x v)) (kv l) := by
      rw [← putG_kv]; rfl
    have hx : putA acc x v = acc ++ [(x, v)] := by
      unfold putA
      rw [if_neg]
      intro z
      rw [List.any_eq_true] at z
      obtain ⟨p, hp, e⟩ := z
      rw [List.map_append, List.nodup_append] at h
      exact h.2.2 p.1 (List.mem_map.mpr ⟨p, hp, rfl⟩) x (by simp) (of_decide_eq_true e)
    rw [e, hx, merge_self l (acc ++ [(x, v)]) (by rw [List.append_assoc]; exact h), List.append_assoc]; rfl
theorem pair_pl (L : PlL) : pairKV (L.map fun p => U.tup [.str p.1, isU p.2]) = some (kv (plA L)) := by
  induction L with
  | nil => rfl
  | cons p L ih =>
    show (match kOf (.str p.1), pairKV (L.map fun p => U.tup [.str p.1, isU p.2]) with | some kk, some l => some ((kk, isU p.2) :: l) | _, _ => none) = _
    rw [ih]; rfl
theorem kept_ok (h : LOk L) (s0 s1 s2 s3 s4 s5 s7 s8 : Sl) (st : Store) : newD (prsK (newL (compK 6 [8] (tgN 8) yesT (appN szT (acons (var 8) (acons (newL (itA lstL (acons (ixG (var 6) (var 8)) anil))) anil)))))) [s0, s1, s2, s3, s4, s5, .val (mkD (kv (plA L))), s7, s8] st = .ok (mkD (kv (plA L))) st := by
  have ks : (kv (plA L)).map (fun p => kU p.1) = L.map fun p => U.str p.1 := by
    unfold kv plA
    rw [List.map_map, List.map_map]; rfl
  have hl := h.len
  have c : compL (tgN 8) yesT (appN szT (acons (var 8) (acons (newL (itA lstL (acons (ixG (var 6) (var 8)) anil))) anil))) (L.map fun p => U.str p.1) [s0, s1, s2, s3, s4, s5, .val (mkD (kv (plA L))), s7, .un] st = .ok (L.map fun p => U.tup [.str p.1, isU p.2]) st :=
    comp_allM L fun p hp => ⟨_, rfl, by
      have e := getU_dct h (st := st) (x := p.1) (is := p.2) hp
      have li : (p.2.map U.int).length ≤ 16777216 := by rw [List.length_map]; have := (h.ne p hp).2; omega
      generalize mkD (kv (plA L)) = PD at *
      unfold isU at *
      show appN szT (acons (var 8) (acons (newL (itA lstL (acons (ixG (var 6) (var 8)) anil))) anil)) [s0, s1, s2, s3, s4, s5, .val PD, s7, .val (.str p.1)] st = _
      simp only [appN_ap, acons_ap, var_succ, var_zero, anil_ap, bind_ok, newL_ap, itA_ap, ixG_ap, e, of_some, lstL_lst]
      simp [szT, li]⟩
  have ck : compK 6 [8] (tgN 8) yesT (appN szT (acons (var 8) (acons (newL (itA lstL (acons (ixG (var 6) (var 8)) anil))) anil))) [s0, s1, s2, s3, s4, s5, .val (mkD (kv (plA L))), s7, s8] st = .ok (L.map fun p => U.tup [.str p.1, isU p.2]) st := by
    rw [compK_ap]
    show (match kvsOf ((kv (plA L)).map fun p => kU p.1) ((kv (plA L)).map (·.2)) with
      | some _ => if ((kv (plA L)).map fun p : Key × U => kU p.1).length ≤ sizeLine then noEx (compL (tgN 8) yesT _ ((kv (plA L)).map fun p : Key × U => kU p.1) (wipeE [s0, s1, s2, s3, s4, s5, .val (mkD (kv (plA L))), s7, s8] [8]) st) else .bad
      | none => .bad) = _
    rw [kvs_mk, ks]
    simp only
    rw [if_pos (by rw [List.length_map, sizeLine_eq]; omega)]
    show noEx (compL (tgN 8) yesT _ (L.map fun p => U.str p.1) [s0, s1, s2, s3, s4, s5, .val (mkD (kv (plA L))), s7, .un] st) = _
    rw [c]; rfl
  have lz : (L.map fun p : Str × List Int => U.tup [.str p.1, isU p.2]).length ≤ 16777216 := by rw [List.length_map]; omega
  have pp := pair_pl L
  have mm : mergeG [] (kv (plA L)) = kv (plA L) := by
    have := merge_self (plA L) [] (by rw [List.nil_append, plA_keys]; exact h.nd)
    exact this
  generalize L.map (fun p : Str × List Int => U.tup [.str p.1, isU p.2]) = PL at *
  rw [newD_ap, prsK_ap, newL_ap, ck]
  simp only [bind_ok, pp, Option.map_some, of_some, mm]
end
set_option maxHeartbeats 2000000 in
theorem law_turn (ns : List Int) (k : Nat) (hk : k ≤ 1000) (s2 s3 s4 s5 s6 s7 s8 : Sl) (st : Store) (hl : Low st) :
    ∃ t2 t3 t4 t5 t6 t7 t8 st', t1_law [.val (.scr ns), .val (.int (k : Nat)), s2, s3, s4, s5, s6, s7, s8] st = .nx [.val (.scr ns), .val (.int (k : Nat)), t2, t3, t4, t5, t6, t7, t8] st' ∧ Low st' := by
  obtain ⟨L, E, evs, Cs, d, ok, ez⟩ := drawn_zd ns k (by omega) st hl
  obtain ⟨E', pE, hdue, hled⟩ := due_ev ok
  have ez := ez s2 s3 s4 s5 s6 s7 s8
  have hkp := fun s0 s1 s2 s3 s4 s5 s7 s8 st => kept_ok ok.pl s0 s1 s2 s3 s4 s5 s7 s8 st
  have pT : Pl 8 (toldU E (evs.map Pt.u) Cs d) := told_pl (end_pl ok.en) (fun u hu => by
    obtain ⟨p, hp, rfl⟩ := List.mem_map.mp hu
    exact pt_pl (ok.ev p hp)) ok.nd ok.cp
  have pB : ∀ u ∈ evs.map (back L), Pl 6 u := fun u hu => by
    obtain ⟨p, hp, rfl⟩ := List.mem_map.mp hu
    exact back_pl (ok.ev p hp)
  have pD : Pl 8 (toldU E' (evs.map (back L)) Cs d) := told_pl pE pB ok.nd ok.cp
  have pP := pl_places ok.pl
  have nT := pT.ne3 (by decide)
  have nD := pD.ne3 (by decide)
  have nP := pP.ne3 (by decide)
  have rD := pD.noRef
  have dD := fun st' => pD.der 12 st'
  have dv : ∀ st' : Store, ∀ m : Nat, st'[m]? = some (.lst (evs.map (back L))) → st'[m + 1]? = some (mkOb (kv Cs)) → der st' (.tup [E', .ref m, .ref (m + 1), .int (d : Nat)]) = toldU E' (evs.map (back L)) Cs d := fun st' m h1 h2 => by
    show derF 12 st' _ = _
    unfold derF
    simp only [List.map_cons, List.map_nil]
    rw [pE.der 11 st', der_lst h1 pB 10, der_dct h2 ok.cp 10]
    rfl
  have tk : szT [E, .lst (evs.map Pt.u), mkD (kv Cs), .int (d : Nat)] = some (toldU E (evs.map Pt.u) Cs d) := rfl
  have i0 : ix2 (toldU E (evs.map Pt.u) Cs d) (.int 0) = some E := rfl
  have i1 : ix2 (toldU E (evs.map Pt.u) Cs d) (.int 1) = some (.lst (evs.map Pt.u)) := rfl
  have i2 : ix2 (toldU E (evs.map Pt.u) Cs d) (.int 2) = some (mkD (kv Cs)) := rfl
  have i3 : ix2 (toldU E (evs.map Pt.u) Cs d) (.int 3) = some (.int (d : Nat)) := rfl
  have le : (evs.map Pt.u).length ≤ 16777216 := by rw [List.length_map]; have := ok.el; omega
  have lb : (evs.map (back L)).length < 16777216 := by rw [List.length_map]; have := ok.el; omega
  have dc : ∀ st, dictAt st (mkD (kv Cs)) = some (kv Cs) := fun st => by
    show kvsOf _ _ = _
    rw [kvs_mk]
  have pz := putO_mk Cs (Str.ofString "zz") (.int 1) (by have := ok.cl; omega)
  have lwB : ∀ n, lowOb n (.lst (evs.map (back L))) = true := fun n => lows_of n _ (noRefs_all fun u hu => (pB u hu).noRef)
  have lwC : ∀ n, lowOb n (mkOb (kv Cs)) = true := fun n => lows_of n _ (noRefs_all fun u hu => by
    rw [kv_vals] at hu
    obtain ⟨p, hp, rfl⟩ := List.mem_map.mp hu
    exact (ok.cp p hp).noRef)
  have lwB2 : ∀ n, lowOb n (.lst (evs.map (back L) ++ [.non])) = true := fun n => lows_of n _ (noRefs_all fun u hu => by
    rcases List.mem_append.mp hu with z | z
    · exact (pB u z).noRef
    · rw [List.mem_singleton] at z; subst z; rfl)
  have lwC2 : ∀ n, lowOb n (mkOb (kv (putA Cs (Str.ofString "zz") (.int 1)))) = true := fun n => lows_of n _ (noRefs_all fun u hu => by
    rw [kv_vals] at hu
    obtain ⟨p, hp, rfl⟩ := List.mem_map.mp hu
    unfold putA at hp
    split at hp
    · obtain ⟨q, hq, rfl⟩ := List.mem_map.mp hp
      split
      · rfl
      · exact (ok.cp q hq).noRef
    · rcases List.mem_append.mp hp with z | z
      · exact (ok.cp p z).noRef
      · rw [List.mem_singleton] at z; subst z; rfl)
  have pzz : Pl 4 (.int 1) := trivial
  obtain ⟨m, hm⟩ : ∃ m, m = st.length := ⟨_, rfl⟩
  obtain ⟨st1, h1⟩ : ∃ s : Store, s = st ++ [.lst (evs.map (back L)), mkOb (kv Cs)] := ⟨_, rfl⟩
  have a1 : st1[m]? = some (.lst (evs.map (back L))) := by rw [h1, hm]; simp
  have b1 : st1[m + 1]? = some (mkOb (kv Cs)) := by rw [h1, hm]; simp
  obtain ⟨st2, h2⟩ : ∃ s : Store, s = st1.set m (.lst (evs.map (back L) ++ [.non])) := ⟨_, rfl⟩
  have b2 : st2[m + 1]? = some (mkOb (kv Cs)) := by rw [h2, List.getElem?_set_ne (by omega)]; exact b1
  obtain ⟨st3, h3⟩ : ∃ s : Store, s = st2.set (m + 1) (mkOb (kv (putA Cs (Str.ofString "zz") (.int 1)))) := ⟨_, rfl⟩
  obtain ⟨st4, h4⟩ : ∃ s : Store, s = st3 ++ [.lst (evs.map (back L)), mkOb (kv Cs)] := ⟨_, rfl⟩
  have a4 : st4[st3.length]? = some (.lst (evs.map (back L))) := by rw [h4]; simp
  have b4 : st4[st3.length + 1]? = some (mkOb (kv Cs)) := by rw [h4]; simp
  have v1 := dv st1 m a1 b1
  have v4 := dv st4 st3.length a4 b4
  have f1 := hled st
  rw [← h1, ← hm] at f1
  have f4 := hled st3
  rw [← h4] at f4
  have L1 : Low st1 := by
    rw [h1]
    intro o ho n
    rcases List.mem_append.mp ho with z | z
    · exact hl o z n
    · simp only [List.mem_cons, List.not_mem_nil, or_false] at z
      rcases z with rfl | rfl
      · exact lwB n
      · exact lwC n
  have L2 : Low st2 := by
    rw [h2]
    intro o ho n
    rcases List.mem_or_eq_of_mem_set ho with z | z
    · exact L1 o z n
    · rw [z]; exact lwB2 n
  have L3 : Low st3 := by
    rw [h3]
    intro o ho n
    rcases List.mem_or_eq_of_mem_set ho with z | z
    · exact L2 o z n
    · rw [z]; exact lwC2 n
  have L4 : Low st4 := by
    rw [h4]
    intro o ho n
    rcases List.mem_append.mp ho with z | z
    · exact L3 o z n
    · simp only [List.mem_cons, List.not_mem_nil, or_false] at z
      rcases z with rfl | rfl
      · exact lwB n
      · exact lwC n
  have tg : tgA [6, 7] (.tup [mkD (kv (plA L)), toldU E (evs.map Pt.u) Cs d]) = some [(6, mkD (kv (plA L))), (7, toldU E (evs.map Pt.u) Cs d)] := rfl
  obtain ⟨DU, hDU⟩ : ∃ u, u = toldU E' (evs.map (back L)) Cs d := ⟨_, rfl⟩
  obtain ⟨FU, hFU⟩ : ∃ u, u = U.tup [E', .ref m, .ref (m + 1), .int (d : Nat)] := ⟨_, rfl⟩
  obtain ⟨GU, hGU⟩ : ∃ u, u = U.tup [E', .ref st3.length, .ref (st3.length + 1), .int (d : Nat)] := ⟨_, rfl⟩
  have ft : isiN [FU, .ty "tuple"] = some (.bl true) := by rw [hFU]; rfl
  have g1 : ix2 FU (.int 1) = some (.ref m) := by rw [hFU]; rfl
  have g2 : ix2 FU (.int 2) = some (.ref (m + 1)) := by rw [hFU]; rfl
  have hdue := hdue st
  rw [← hDU] at nD rD hdue v1 v4
  rw [← hFU] at f1 v1
  rw [← hGU] at f4 v4
  have dDU : ∀ st', der st' DU = DU := fun st' => by rw [hDU]; exact dD st'
  refine ⟨.val DU, .val (mkD (kv (plA L))), .val (toldU E (evs.map Pt.u) Cs d), .val FU, .val (mkD (kv (plA L))), .val (toldU E (evs.map Pt.u) Cs d), s8, st4, ?_, L4⟩
  have ez' : zD (appU f_l_drawn (acons (appU f_l_hand (acons (var 0) (acons (var 1) anil))) anil)) [.val (.scr ns), .val (.int (k : Nat)), s2, s3, s4, s5, s6, s7, s8] st = .ok (.tup [mkD (kv (plA L)), toldU E (evs.map Pt.u) Cs d]) st := ez
  obtain ⟨PD, hPD⟩ : ∃ u, u = mkD (kv (plA L)) := ⟨_, rfl⟩
  obtain ⟨TU, hTU⟩ : ∃ u, u = toldU E (evs.map Pt.u) Cs d := ⟨_, rfl⟩
  obtain ⟨SC, hSC⟩ : ∃ u, u = U.scr ns := ⟨_, rfl⟩
  obtain ⟨KI, hKI⟩ : ∃ u, u = U.int (k : Nat) := ⟨_, rfl⟩
  rw [← hPD, ← hTU] at ez' tg hdue f1 f4
  rw [← hPD] at hkp nP
  rw [← hTU] at nT tk i0 i1 i2 i3
  rw [← hSC, ← hKI] at ez'
  rw [← hPD, ← hTU, ← hSC, ← hKI]
  clear hPD hTU hSC hKI ez hDU hFU hGU
  have r1 : lwS1 [.val SC, .val KI, s2, s3, s4, s5, s6, s7, s8] st = .nx [.val SC, .val KI, s2, s3, s4, s5, .val PD, .val TU, s8] st := by
    unfold lwS1
    rw [sUnp_ap, ez']
    simp only [out_ok, tg]
    rfl
  have r2 : lwS2 [.val SC, .val KI, s2, s3, s4, s5, .val PD, .val TU, s8] st = .nx [.val SC, .val KI, .val DU, s3, s4, s5, .val PD, .val TU, s8] st := by
    unfold lwS2
    simp [hdue]
  have r3 : lwS3 [.val SC, .val KI, .val DU, s3, s4, s5, .val PD, .val TU, s8] st = .nx [.val SC, .val KI, .val DU, .val PD, s4, s5, .val PD, .val TU, s8] st := by
    unfold lwS3
    rw [sSet_ap, hkp]
    rfl
  have r4 : lwS4 [.val SC, .val KI, .val DU, .val PD, s4, s5, .val PD, .val TU, s8] st = .nx [.val SC, .val KI, .val DU, .val PD, .val TU, s5, .val PD, .val TU, s8] st := by
    have dc := dc st
    generalize evs.map Pt.u = EV at *
    generalize kv Cs = CK at *
    generalize hCD : mkD CK = CD at *
    unfold lwS4
    simp only [sSet_ap, appN_ap, acons_ap, bin_ap, var_succ, var_zero, cst_ap, anil_ap, bind_ok, of_some, out_ok, newL_ap, newD_ap, cpyK_ap, itA_ap, i0, i1, i2, i3, lstL_lst, dc, hCD, tk, le, if_true]
    simp [le, hCD, tk]
  have r5 : lwS5 [.val SC, .val KI, .val DU, .val PD, .val TU, s5, .val PD, .val TU, s8] st = .nx [.val SC, .val KI, .val DU, .val PD, .val TU, .val FU, .val PD, .val TU, s8] st1 := by
    unfold lwS5
    simp [f1]
  have r6 : lwS6 [.val SC, .val KI, .val DU, .val PD, .val TU, .val FU, .val PD, .val TU, s8] st1 = .nx [.val SC, .val KI, .val DU, .val PD, .val TU, .val FU, .val PD, .val TU, s8] st1 := by
    have := dDU st1
    unfold lwS6
    simp [ft, v1, this, rD, nD, nT, nP, flat1, flatU]
  have r7 : lwS7 [.val SC, .val KI, .val DU, .val PD, .val TU, .val FU, .val PD, .val TU, s8] st1 = .nx [.val SC, .val KI, .val DU, .val PD, .val TU, .val FU, .val PD, .val TU, s8] st2 := by
    rw [h2]
    generalize evs.map (back L) = BV at *
    unfold lwS7
    simp [g1, a1, lb]
  have r8 : lwS8 [.val SC, .val KI, .val DU, .val PD, .val TU, .val FU, .val PD, .val TU, s8] st2 = .nx [.val SC, .val KI, .val DU, .val PD, .val TU, .val FU, .val PD, .val TU, s8] st3 := by
    rw [h3]
    generalize mkOb (kv (putA Cs (Str.ofString "zz") (.int 1))) = O2 at *
    generalize mkOb (kv Cs) = O1 at *
    unfold lwS8
    simp [g2, b2, pz]
  have r9 : lwS9 [.val SC, .val KI, .val DU, .val PD, .val TU, .val FU, .val PD, .val TU, s8] st3 = .nx [.val SC, .val KI, .val DU, .val PD, .val TU, .val FU, .val PD, .val TU, s8] st4 := by
    have := dDU st4
    unfold lwS9
    simp [nT, f4, v4, this, rD, nD, flat1, flatU]
  rw [lwS_eq, chain r1, chain r2, chain r3, chain r4, chain r5, chain r6, chain r7, chain r8, chain r9]
  rfl
theorem law_true (ns : List Int) (hn : ns.length ≤ 63) : ∃ st', f_law [.scr ns] [] = .ok (.bl true) st' := by
  obtain ⟨m, hm, hm2⟩ : ∃ m : Nat, max (2 : Int) (min (ns.length : Int) 60) = (m : Int) ∧ m ≤ 60 := by
    refine ⟨(max (2 : Int) (min (ns.length : Int) 60)).toNat, ?_, ?_⟩ <;> omega
  have rg := rng1_nat m (by omega)
  obtain ⟨env', st', e, t2, t3, t4, t5, t6, t7, t8, k1, rfl, hl⟩ := G2.for_stL (t := tgN 1) (b := t1_law) (f := fun i : Nat => U.int (i : Nat)) (fun rest env st' => ∃ t2 t3 t4 t5 t6 t7 t8 k1, env = [.val (.scr ns), k1, t2, t3, t4, t5, t6, t7, t8] ∧ Low st') (List.range m) [.val (.scr ns), .un, .un, .un, .un, .un, .un, .un, .un] []
    ⟨_, _, _, _, _, _, _, _, rfl, low_nil⟩ (fun i rest env st' hi ⟨t2, t3, t4, t5, t6, t7, t8, k1, he, hl⟩ => by
      have hi := List.mem_range.mp hi
      obtain ⟨q2, q3, q4, q5, q6, q7, q8, st2, e2, l2⟩ := law_turn ns i (by omega) t2 t3 t4 t5 t6 t7 t8 st' hl
      exact ⟨[(1, .int (i : Nat))], _, st2, rfl, by rw [he]; exact e2, q2, q3, q4, q5, q6, q7, q8, _, rfl, l2⟩)
  refine ⟨st', ?_⟩
  have ln : lenN [.scr ns] = some (.int (ns.length : Int)) := by simp
  have mi : minN [.int (ns.length : Int), .int 60] = some (.int (min (ns.length : Int) 60)) := by
    simp
    split <;> omega
  have mx : maxN [.int 2, .int (min (ns.length : Int) 60)] = some (.int (m : Int)) := by
    rw [← hm]
    simp
    split <;> omega
  generalize (List.range m).map (fun i => U.int (i : Nat)) = RG at *
  generalize U.int (min (ns.length : Int) 60) = MI at *
  generalize U.int (m : Int) = MX at *
  generalize U.scr ns = SC at *
  unfold f_law b_law
  simp [ln, mi, mx, rg, e, fin]
end T_allcallers_k40_led_back
open PySem PySem.W PyProof.Rows
set_option maxHeartbeats 0 in
theorem PySem.Challenge.cw_allcallers_k40_led_back_holds : PySem.Challenge.rw_allcallers_k40_led_back.Holds := by
  w_on; o_law; k_head; (case hw => w_witness2)
  k_fill
  refine L2.walk_of (l := PySem.Challenge.rw_allcallers_k40_led_back) (n := 63) (k := 5) (x := "_law_script") (CX := fun w => L2.CX PySem.Challenge.rw_allcallers_k40_led_back.prog w) (sp := fun w => D.spD _ D.noXS 1 T_allcallers_k40_led_back.f_law) rfl (by decide) rfl ⟨rfl, by decide, by decide⟩ (fun w h Y => PySem.W.kIn_of Y) ?F (fun _ H a ns hl _ hS => D.law_sp hS (T_allcallers_k40_led_back.law_true ns hl)) (fun _ _ _ _ _ h => D.cx_no h)
  case F =>
    intro w mg fa h KX G hmg
    refine' T_allcallers_k40_led_back.all_mk KX G hmg ?a0 ?l0 ?c0 ?k0 ?a1 ?l1 ?c1 ?k1 ?a2 ?l2 ?c2 ?k2 ?a3 ?l3 ?c3 ?k3 ?a4 ?l4 ?c4 ?k4 ?a5 ?l5 ?c5 ?k5 ?a6 ?l6 ?c6 ?k6 ?a7 ?l7 ?c7 ?k7 ?a8 ?l8 ?c8 ?k8 ?a9 ?l9 ?c9 ?k9 ?z_dict ?z_int ?z_isinstance ?z_len ?z_list ?z_max ?z_min ?z_range ?z_sorted ?z_tuple
    (case a0 => k_is)
    (case l0 => k_is)
    (case c0 => k_is)
    (case k0 => k_is)
    (case a1 => k_is)
    (case l1 => k_is)
    (case c1 => k_is)
    (case k1 => k_is)
    (case a2 => k_is)
    (case l2 => k_is)
    (case c2 => k_is)
    (case k2 => k_is)
    (case a3 => k_is)
    (case l3 => k_is)
    (case c3 => k_is)
    (case k3 => k_is)
    (case a4 => k_is)
    (case l4 => k_is)
    (case c4 => k_is)
    (case k4 => k_is)
    (case a5 => k_is)
    (case l5 => k_is)
    (case c5 => k_is)
    (case k5 => k_is)
    (case a6 => k_is)
    (case l6 => k_is)
    (case c6 => k_is)
    (case k6 => k_is)
    (case a7 => k_is)
    (case l7 => k_is)
    (case c7 => k_is)
    (case k7 => k_is)
    (case a8 => k_is)
    (case l8 => k_is)
    (case c8 => k_is)
    (case k8 => k_is)
    (case a9 => k_is)
    (case l9 => k_is)
    (case c9 => k_is)
    (case k9 => k_is)
    (case z_dict => k_is)
    (case z_int => k_is)
    (case z_isinstance => k_is)
    (case z_len => k_is)
    (case z_list => k_is)
    (case z_max => k_is)
    (case z_min => k_is)
    (case z_range => k_is)
    (case z_sorted => k_is)
    (case z_tuple => k_is)
