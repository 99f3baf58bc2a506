import PyProof.Rows.All
import Wide.All
import OpenK.AllK
import Wide.FinOn
import HandS.ForMost
import HandS.IsInst
import HandS.Flow
import HandS.WordsExc
import HandS.CallSlots
import KE.KeyNested
import HandS.Style
import HandS.TupAny
import HandS.TupLe
import HandS.Deep
import HandS.Small
import PyProof.NeKinds
import PyProof.EqKinds
import HandS.Exc
import HandS.ExcIs
import HandS.ExcField
import KE.GoesEnum
import HandS.Zip
import HandS.Rev
import HandS.Strs
import HandS.SetFor
import PyProof.SetRoads
import PyProof.Rows.SortShellAny
import PyProof.Rows.SortShellSt
import HandS.TryOnly
import HandS.More
import HandS.SortKw
import KE.DatumOrd
import HandS.ExcInit
import HandS.ExcOwn
import PyProof.TupleOfStr
import HandS.Conv
import HandS.Text
import HandS.RaiseMore
import KE.KDictDisplayH
import HandS.WordsDict
import HandS.DeepEq
import KE.KDictZip
import HandS.Iter
import PyProof.ListMulRoad
import PyProof.FactsAll.tuple_2
import HandS.Base
import HandS.Call
import HandS.List
import HandS.TupMul
import PyProof.ReprRoads
import HandS.Ends
import HandS.WideBits
import HandS.Comp
import PyProof.StrBlock2
import HandS.Finally
import KE.KDictCopyH
import HandS.ListItems
import KE.KSortTupAny
import HandS.SortRule
import KE.SortData
import HandS.SortOrd
import HandS.Sort
import KE.GoesZip
import KE.GoesMore
import KE.GoesNew
import HandS.SuiteRaise
import HandS.ExcInitHot
import PySem.Challenge.RW_allcallers_k36_numbers_of_leaves
set_option Elab.async false
set_option linter.all false
set_option maxRecDepth 100000
namespace D
open PySem L2
inductive U where
  | non | bl (b : Bool) | int (i : Int) | str (x : Str)
  | tup (us : List U) | lst (us : List U) | dct (ks us : List U)
  | ref (n : Nat) | ty (n : String) | scr (ns : List Int)
inductive Ob where
  | lst (us : List U) | dct (ks us : List U) | ins (c : Str) (fs : List (Str × U)) | obj (c : Str) (fs : List (Str × U)) | dcT (ks : List (List U)) (us : List U) | dcN (w : World) (kvs : List (NestedKey × U)) | gone
noncomputable abbrev Store := List Ob
inductive Rs (α : Type) where
  | ok (a : α) (st : Store) | ex (c : Str) (us : List (Str × U)) (st : Store) | bad
noncomputable def Rs.bind {α β : Type} (r : Rs α) (k : α → Store → Rs β) : Rs β := match r with
  | .ok a st => k a st
  | .ex c us st => .ex c us st
  | .bad => .bad
noncomputable def Rs.of {α : Type} (o : Option α) (st : Store) : Rs α := match o with
  | some a => .ok a st
  | none => .bad
inductive Sl where
  | un | val (u : U) | own (us : List U)
noncomputable abbrev Env := List Sl
noncomputable abbrev DE := Env → Store → Rs U
noncomputable abbrev DA := Env → Store → Rs (List U)
noncomputable abbrev DT := Env → Store → Rs Bool
noncomputable def KL (K : PySem.W.Frag) (a : Addr) (xs : List V) : Prop :=
  ∃ (o : Obj) (its : Array Value) (n : Nat), K.lookup a = some o ∧ o.cls = .type "list" ∧ o.dict = none ∧ o.data = .seq its n ∧ its.size ≤ sizeLine ∧ Vals xs its.toList
noncomputable def KT (K : PySem.W.Frag) (a : Addr) (xs : List V) : Prop :=
  ∃ (o : Obj) (its : Array Value) (n : Nat), K.lookup a = some o ∧ o.cls = .type "tuple" ∧ o.data = .seq its n ∧ its.size ≤ sizeLine ∧ Vals xs its.toList
noncomputable def LL (K : PySem.W.Frag) (W : Addr → Prop) (H : Hp) (a : Addr) (xs : List V) : Prop := H a = some (.lst xs) ∧ ¬ W a
noncomputable def LS (K : PySem.W.Frag) (W : Addr → Prop) (H : Hp) (a : Addr) (xs : List V) : Prop := (Rd H a (.lst xs) ∧ ¬ W a) ∨ KL K a xs
noncomputable def LT (K : PySem.W.Frag) (W : Addr → Prop) (H : Hp) (a : Addr) (xs : List V) : Prop := (Rd H a (.tup xs) ∧ ¬ W a) ∨ KT K a xs
theorem LL.sq {K : PySem.W.Frag} {W : Addr → Prop} {H : Hp} {a : Addr} {xs : List V} (h : LL K W H a xs) : SqL K H a xs := .inl (.inl h.1)
theorem LS.sq {K : PySem.W.Frag} {W : Addr → Prop} {H : Hp} {a : Addr} {xs : List V} (h : LS K W H a xs) : SqL K H a xs := h.elim (fun x => .inl x.1) .inr
theorem LT.sq {K : PySem.W.Frag} {W : Addr → Prop} {H : Hp} {a : Addr} {xs : List V} (h : LT K W H a xs) : SqT K H a xs := h.elim (fun x => .inl x.1) .inr
noncomputable def kU : Key → U
  | .inl i => .int i
  | .inr x => .str x
noncomputable def LD (W : Addr → Prop) (H : Hp) (a : Addr) (ks : List U) (vs : List V) : Prop := ¬ W a ∧
  ((∃ kvs : List (Key × V), Rd H a (.dK kvs) ∧ ks = kvs.map (fun p => kU p.1) ∧ vs = kvs.map (·.2)) ∨
   (∃ kvs : List (List Key × V), H a = some (.dT kvs) ∧ ks = kvs.map (fun p => U.tup (p.1.map kU)) ∧ vs = kvs.map (·.2) ∧ kvs ≠ []))
mutual
noncomputable def Rep (K : PySem.W.Frag) (W : Addr → Prop) (io : List Addr) (H : Hp) : U → V → Prop
  | .non, v => v = .non
  | .bl b, v => v = .bl b
  | .int i, v => v = .int i
  | .str x, v => v = .str x
  | .ty n, v => v = .ty n
  | .ref n, v => ∃ a, io[n]? = some a ∧ v = .ref a
  | .tup us, v => ∃ a vs, v = .ref a ∧ LT K W H a vs ∧ aq K W io H us vs
  | .lst us, v => ∃ a vs, v = .ref a ∧ LL K W H a vs ∧ aq K W io H us vs
  | .dct ks us, v => ∃ a vs, v = .ref a ∧ LD W H a ks vs ∧ aq K W io H us vs
  | .scr ns, v => ∃ a, v = .ref a ∧ LS K W H a (ns.map V.int)
noncomputable def aq (K : PySem.W.Frag) (W : Addr → Prop) (io : List Addr) (H : Hp) : List U → List V → Prop
  | [], vs => vs = []
  | u :: us, vs => ∃ v r, vs = v :: r ∧ Rep K W io H u v ∧ aq K W io H us r
end
structure Ext (io : List Addr) (H : Hp) (io' : List Addr) (H' : Hp) : Prop where
  pre : ∃ more, io' = io ++ more ∧ ∀ a ∈ more, H a = none
  keep : ∀ a o, a ∉ io → H a = some o → H' a = some o
  stay : ∀ a o, H a = some o → ∃ o', H' a = some o'
noncomputable def Wf (G : Addr → Prop) (io : List Addr) : Addr → Prop := fun a => G a ∨ a ∈ io
theorem Ext.refl (io : List Addr) (H : Hp) : Ext io H io H := ⟨⟨[], by simp, fun _ h => nomatch h⟩, fun _ _ _ h => h, fun _ o h => ⟨o, h⟩⟩
theorem Ext.same {io : List Addr} {H H' : Hp} (s : Same H H') : Ext io H io H' := ⟨⟨[], by simp, fun _ h => nomatch h⟩, fun a o _ h => s a o h, fun a o h => ⟨o, s a o h⟩⟩
theorem Ext.trans {io io1 io2 : List Addr} {H H1 H2 : Hp} (a : Ext io H io1 H1) (b : Ext io1 H1 io2 H2) : Ext io H io2 H2 := by
  have st := a.stay
  obtain ⟨m1, e1, f1⟩ := a.pre
  obtain ⟨m2, e2, f2⟩ := b.pre
  refine ⟨⟨m1 ++ m2, by rw [e2, e1, List.append_assoc], fun x hx => ?_⟩, fun x o hx h => ?_, fun x o h => let ⟨o1, e1⟩ := a.stay x o h; b.stay x o1 e1⟩
  · rcases List.mem_append.mp hx with h | h
    · exact f1 x h
    · have z := f2 x h
      cases q : H x with
      | none => rfl
      | some o =>
        obtain ⟨o', e⟩ := st x o q
        rw [e] at z; cases z
  · refine b.keep x o (fun z => ?_) (a.keep x o hx h)
    rw [e1] at z
    rcases List.mem_append.mp z with z | z
    · exact hx z
    · rw [f1 x z] at h; cases h
section
variable {K : PySem.W.Frag} {G : Addr → Prop} {io io' : List Addr} {H H' : Hp}
theorem Ext.notW (e : Ext io H io' H') {a : Addr} {o : HO} (h : ¬ Wf G io a) (ho : H a = some o) : ¬ Wf G io' a := by
  obtain ⟨m, rfl, f⟩ := e.pre
  rintro (z | z)
  · exact h (.inl z)
  · rcases List.mem_append.mp z with z | z
    · exact h (.inr z)
    · rw [f a z] at ho; cases ho
theorem Ext.rd (e : Ext io H io' H') {a : Addr} {u : HO} (h : Rd H a u) (n : ¬ Wf G io a) : Rd H' a u ∧ ¬ Wf G io' a := by
  rcases h with h | ⟨o, h⟩
  · exact ⟨.inl (e.keep a _ (fun z => n (.inr z)) h), e.notW n h⟩
  · exact ⟨.inr ⟨o, e.keep a _ (fun z => n (.inr z)) h⟩, e.notW n h⟩
structure b_ (G : Addr → Prop) (io : List Addr) (H : Hp) (G' : Addr → Prop) (io' : List Addr) (H' : Hp) : Prop where
  pre : ∃ more, io' = io ++ more
  keep : ∀ a o, ¬ Wf G io a → H a = some o → H' a = some o ∧ ¬ Wf G' io' a
theorem Ext.mono (e : Ext io H io' H') : b_ G io H G io' H' := ⟨let ⟨m, q, _⟩ := e.pre; ⟨m, q⟩, fun a o n h => ⟨e.keep a o (fun z => n (.inr z)) h, e.notW n h⟩⟩
end
section
variable {K : PySem.W.Frag} {G G' : Addr → Prop} {io io' : List Addr} {H H' : Hp}
theorem b_.rd (e : b_ G io H G' io' H') {a : Addr} {u : HO} (h : Rd H a u) (n : ¬ Wf G io a) : Rd H' a u ∧ ¬ Wf G' io' a := by
  rcases h with h | ⟨o, h⟩
  · exact ⟨.inl (e.keep a _ n h).1, (e.keep a _ n h).2⟩
  · exact ⟨.inr ⟨o, (e.keep a _ n h).1⟩, (e.keep a _ n h).2⟩
theorem LL.mono (e : b_ G io H G' io' H') {a : Addr} {xs : List V} (h : LL K (Wf G io) H a xs) : LL K (Wf G' io') H' a xs := e.keep a _ h.2 h.1
theorem LS.mono (e : b_ G io H G' io' H') {a : Addr} {xs : List V} (h : LS K (Wf G io) H a xs) : LS K (Wf G' io') H' a xs := h.elim (fun x => .inl (e.rd x.1 x.2)) .inr
theorem LT.mono (e : b_ G io H G' io' H') {a : Addr} {xs : List V} (h : LT K (Wf G io) H a xs) : LT K (Wf G' io') H' a xs := h.elim (fun x => .inl (e.rd x.1 x.2)) .inr
theorem LD.mono (e : b_ G io H G' io' H') {a : Addr} {ks : List U} {vs : List V} (h : LD (Wf G io) H a ks vs) : LD (Wf G' io') H' a ks vs := by
  obtain ⟨n, ⟨kvs, h1, h2⟩ | ⟨kvs, h1, h2⟩⟩ := h
  · exact ⟨(e.rd h1 n).2, .inl ⟨kvs, (e.rd h1 n).1, h2⟩⟩
  · exact ⟨(e.keep a _ n h1).2, .inr ⟨kvs, (e.keep a _ n h1).1, h2⟩⟩
mutual
theorem Rep.mono (e : b_ G io H G' io' H') : ∀ (u : U) (v : V), Rep K (Wf G io) io H u v → Rep K (Wf G' io') io' H' u v
  | .non, v, h => by unfold Rep at h ⊢; exact h
  | .bl b, v, h => by unfold Rep at h ⊢; exact h
  | .int i, v, h => by unfold Rep at h ⊢; exact h
  | .str x, v, h => by unfold Rep at h ⊢; exact h
  | .ty n, v, h => by unfold Rep at h ⊢; exact h
  | .ref n, v, h => by
    unfold Rep at h ⊢
    obtain ⟨a, h1, h2⟩ := h
    obtain ⟨m, rfl⟩ := e.pre
    exact ⟨a, by rw [List.getElem?_append_left (List.getElem?_eq_some_iff.mp h1).1]; exact h1, h2⟩
  | .tup us, v, h => by
    unfold Rep at h ⊢
    obtain ⟨a, vs, h1, h2, h3⟩ := h
    exact ⟨a, vs, h1, h2.mono e, aq.mono e us vs h3⟩
  | .lst us, v, h => by
    unfold Rep at h ⊢
    obtain ⟨a, vs, h1, h2, h3⟩ := h
    exact ⟨a, vs, h1, h2.mono e, aq.mono e us vs h3⟩
  | .dct ks us, v, h => by
    unfold Rep at h ⊢
    obtain ⟨a, vs, h1, h2, h3⟩ := h
    exact ⟨a, vs, h1, h2.mono e, aq.mono e us vs h3⟩
  | .scr ns, v, h => by
    unfold Rep at h ⊢
    obtain ⟨a, h1, h2⟩ := h
    exact ⟨a, h1, h2.mono e⟩
theorem aq.mono (e : b_ G io H G' io' H') : ∀ (us : List U) (vs : List V), aq K (Wf G io) io H us vs → aq K (Wf G' io') io' H' us vs
  | [], vs, h => by unfold aq at h ⊢; exact h
  | u :: us, vs, h => by
    unfold aq at h ⊢
    obtain ⟨v, r, h1, h2, h3⟩ := h
    exact ⟨v, r, h1, Rep.mono e u v h2, aq.mono e us r h3⟩
end
theorem Rep.ext (e : Ext io H io' H') (u : U) (v : V) (h : Rep K (Wf G io) io H u v) : Rep K (Wf G io') io' H' u v := Rep.mono e.mono u v h
theorem aq.ext (e : Ext io H io' H') (u : List U) (v : List V) (h : aq K (Wf G io) io H u v) : aq K (Wf G io') io' H' u v := aq.mono e.mono u v h
end
section
variable {K : PySem.W.Frag} {W : Addr → Prop} {io : List Addr} {H : Hp}
theorem aq.nil : aq K W io H [] [] := by unfold aq; rfl
theorem aq.cons {u : U} {v : V} {us : List U} {vs : List V} (h : Rep K W io H u v) (t : aq K W io H us vs) : aq K W io H (u :: us) (v :: vs) := by unfold aq; exact ⟨v, vs, rfl, h, t⟩
theorem aq.uncons {u : U} {us : List U} {vs : List V} (h : aq K W io H (u :: us) vs) : ∃ v r, vs = v :: r ∧ Rep K W io H u v ∧ aq K W io H us r := by unfold aq at h; exact h
theorem aq.isNil {vs : List V} (h : aq K W io H [] vs) : vs = [] := by unfold aq at h; exact h
theorem aq.length : ∀ {us : List U} {vs : List V}, aq K W io H us vs → us.length = vs.length
  | [], _, h => by rw [h.isNil]; rfl
  | u :: us, _, h => by
    obtain ⟨v, r, rfl, _, t⟩ := h.uncons
    simp [aq.length t]
theorem aq.get : ∀ {us : List U} {vs : List V} {i : Nat} {u : U}, aq K W io H us vs → us[i]? = some u → ∃ v, vs[i]? = some v ∧ Rep K W io H u v
  | [], _, _, _, _, e => by simp at e
  | u :: us, _, 0, _, h, e => by
    obtain ⟨v, r, rfl, q, t⟩ := h.uncons
    simp at e; subst e
    exact ⟨v, rfl, q⟩
  | u :: us, _, i + 1, _, h, e => by
    obtain ⟨v, r, rfl, q, t⟩ := h.uncons
    simpa using aq.get t (by simpa using e)
theorem aq.append : ∀ {us ws : List U} {vs xs : List V}, aq K W io H us vs → aq K W io H ws xs → aq K W io H (us ++ ws) (vs ++ xs)
  | [], _, _, _, h, t => by rw [h.isNil]; exact t
  | u :: us, _, _, _, h, t => by
    obtain ⟨v, r, rfl, q, t'⟩ := h.uncons
    exact .cons q (aq.append t' t)
theorem aq.take : ∀ {us : List U} {vs : List V} (n : Nat), aq K W io H us vs → aq K W io H (us.take n) (vs.take n)
  | _, _, 0, _ => by simp; exact .nil
  | [], _, n + 1, h => by rw [h.isNil]; exact .nil
  | u :: us, _, n + 1, h => by
    obtain ⟨v, r, rfl, q, t⟩ := h.uncons
    exact .cons q (aq.take n t)
theorem aq.drop : ∀ {us : List U} {vs : List V} (n : Nat), aq K W io H us vs → aq K W io H (us.drop n) (vs.drop n)
  | _, _, 0, h => h
  | [], _, n + 1, h => by rw [h.isNil]; exact .nil
  | u :: us, _, n + 1, h => by
    obtain ⟨v, r, rfl, q, t⟩ := h.uncons
    exact aq.drop n t
theorem aq.ofInts : ∀ {ns : List Int} {vs : List V}, aq K W io H (ns.map U.int) vs → vs = ns.map V.int
  | [], _, h => h.isNil
  | n :: ns, _, h => by
    obtain ⟨v, r, rfl, q, t⟩ := h.uncons
    unfold Rep at q
    rw [q, aq.ofInts t]; rfl
theorem aq.ints (ns : List Int) : aq K W io H (ns.map U.int) (ns.map V.int) := by
  induction ns with
  | nil => exact .nil
  | cons n ns ih => exact .cons (by unfold Rep; rfl) ih
theorem aq.ofStrs : ∀ {ns : List Str} {vs : List V}, aq K W io H (ns.map U.str) vs → vs = ns.map V.str
  | [], _, h => h.isNil
  | n :: ns, _, h => by
    obtain ⟨v, r, rfl, q, t⟩ := h.uncons
    unfold Rep at q
    rw [q, aq.ofStrs t]; rfl
theorem aq.strs (ns : List Str) : aq K W io H (ns.map U.str) (ns.map V.str) := by
  induction ns with
  | nil => exact .nil
  | cons n ns ih => exact .cons (by unfold Rep; rfl) ih
end
noncomputable def NX (o : HO) : Prop := ∀ ws, o ≠ .xd ws
theorem oW {vs : List V} : NX (.lst vs) := fun _ z => nomatch z
noncomputable def clsAt (K : PySem.W.Frag) (c : Str) : Option Addr := match PySem.W.nsIn K mainGlobals c with
  | some (some (.ref C)) => some C
  | _ => none
noncomputable def exk (cls : Value) (d : Option Addr) (a : Addr) : HO := .ext fun h => ∃ (oe : Obj) (vs : Array Value), h.get? a = some oe ∧ Zc cls d oe ∧ oe.data = .fields vs
noncomputable def flatE : U → Option V
  | .non => some .non
  | .bl b => some (.bl b)
  | .int i => some (.int i)
  | .str x => some (.str x)
  | _ => none
noncomputable def XD (fs : List (Str × U)) (d : Option Addr) (H : Hp) : Prop := (fs = [] ∧ d = none) ∨ ∃ dd ws, d = some dd ∧ H dd = some (.xd ws) ∧ fs.map (fun p => (p.1, flatE p.2)) = ws.map (fun p => (p.1, some p.2))
theorem XD.keep {fs : List (Str × U)} {d : Option Addr} {H H' : Hp} (h : XD fs d H) (k : ∀ dd ws, H dd = some (.xd ws) → H' dd = some (.xd ws)) : XD fs d H' := by
  rcases h with h | ⟨dd, ws, h1, h2, h3⟩
  · exact .inl h
  · exact .inr ⟨dd, ws, h1, k dd ws h2, h3⟩
mutual
noncomputable def dO : NestedKey → U
  | .none => .non
  | .num i => .int i
  | .text x => .str x
  | .tup ks => .tup (eG ks)
noncomputable def eG : List NestedKey → List U
  | [] => []
  | k :: ks => dO k :: eG ks
end
noncomputable abbrev NE := NestedKey × Addr × V × Value
noncomputable def kJ (w : World) (a : Addr) (xs : List NE) (h : Heap) : Prop := (a == sysModules) = false ∧ ∃ o es ep, h.get? a = some o ∧ o.ExactDict ∧ o.data = .dict es ep ∧ es.toList = xs.map (fun x => (⟨x.1.hash w, .ref x.2.1, x.2.2.2⟩ : DictEntry))
noncomputable def bZ (w : World) (a : Addr) (xs : List NE) : HO := .ext (kJ w a xs)
noncomputable def Nok (kvs : List (NestedKey × U)) (xs : List NE) : Prop := xs.map (·.1) = kvs.map (·.1) ∧ (kvs.map (·.1)).Nodup ∧ kvs.length ≤ sizeLine ∧ (∀ k ∈ kvs.map (·.1), (∃ ks, k = NestedKey.tup ks) ∧ k.depth ≤ 8) ∧ Vals (xs.map (·.2.2.1)) (xs.map (·.2.2.2))
noncomputable def nU (kvs : List (NestedKey × U)) : List U := kvs.map (fun p => dO p.1) ++ kvs.map (·.2)
noncomputable def nV (xs : List NE) : List V := xs.map (fun x => V.ref x.2.1) ++ xs.map (·.2.2.1)
theorem pX {w : World} {a : Addr} {xs : List NE} : NX (bZ w a xs) := fun ws z => by
  have z' : HO.ext _ = HO.xd ws := z
  cases z'
noncomputable def jg (K : PySem.W.Frag) (W : Addr → Prop) (io : List Addr) (H : Hp) (a : Addr) : Ob → Prop
  | .lst us => ∃ vs, H a = some (.lst vs) ∧ aq K W io H us vs
  | .dct ks us => ∃ kvs : List (Key × V), H a = some (.dK kvs) ∧ ks = kvs.map (fun p => kU p.1) ∧ aq K W io H us (kvs.map (·.2))
  | .dcT ks us => ∃ kvs : List (List Key × V), H a = some (.dT kvs) ∧ ks = kvs.map (fun p => p.1.map kU) ∧ aq K W io H us (kvs.map (·.2))
  | .dcN w kvs => ∃ xs : List NE, H a = some (bZ w a xs) ∧ Nok kvs xs ∧ aq K W io H (nU kvs) (nV xs)
  | .obj c fs => ∃ C dx vs, clsAt K c = some C ∧ H a = some (.ins C dx ((fs.map (·.1)).zip vs)) ∧ aq K W io H (fs.map (·.2)) vs
  | .ins c fs => ∃ C d, clsAt K c = some C ∧ H a = some (exk (.ref C) d a) ∧ XD fs d H
  | .gone => True
structure Ok (K : PySem.W.Frag) (G : Addr → Prop) (io : List Addr) (st : Store) (H : Hp) : Prop where
  nd : io.Nodup
  dj : ∀ a ∈ io, ¬ G a
  trk : ∀ a, Wf G io a → ∃ o, H a = some o ∧ NX o
  len : st.length = io.length
  obs : ∀ (n : Nat) (ob : Ob) (a : Addr), st[n]? = some ob → io[n]? = some a → jg K (Wf G io) io H a ob
noncomputable def SlRep (K : PySem.W.Frag) (G : Addr → Prop) (io : List Addr) (H : Hp) : Sl → Option V → Prop
  | .un, _ => True
  | .val u, o => ∃ v, o = some v ∧ Rep K (Wf G io) io H u v
  | .own us, o => ∃ a vs, o = some (.ref a) ∧ G a ∧ H a = some (.lst vs) ∧ aq K (Wf G io) io H us vs
structure aK (K : PySem.W.Frag) (G : Addr → Prop) (io : List Addr) (H : Hp) (env : Env) (sg : St) : Prop where
  len : env.length = sg.length
  sl : ∀ (i : Nat) s o, env[i]? = some s → sg[i]? = some o → SlRep K G io H s o
section
variable {K : PySem.W.Frag} {G : Addr → Prop} {io io' : List Addr} {H H' : Hp} {st : Store} {env : Env} {sg : St}
theorem Ok.same (h : Ok K G io st H) (s : Same H H') : Ok K G io st H' := ⟨h.nd, h.dj, fun a q => let ⟨o, e, x⟩ := h.trk a q; ⟨o, s a o e, x⟩, h.len, fun n ob a e1 e2 => by
  have q := h.obs n ob a e1 e2
  cases ob with
  | lst us =>
    obtain ⟨vs, q1, q2⟩ := q
    exact ⟨vs, s _ _ q1, q2.ext (Ext.same s)⟩
  | dct ks us =>
    obtain ⟨kvs, q1, q2, q3⟩ := q
    exact ⟨kvs, s _ _ q1, q2, q3.ext (Ext.same s)⟩
  | dcT ks us =>
    obtain ⟨kvs, q1, q2, q3⟩ := q
    exact ⟨kvs, s _ _ q1, q2, q3.ext (Ext.same s)⟩
  | dcN w kvs =>
    obtain ⟨xs, q1, q2, q3⟩ := q
    exact ⟨xs, s _ _ q1, q2, q3.ext (Ext.same s)⟩
  | obj c fs =>
    obtain ⟨C, dx, vs, q1, q2, q3⟩ := q
    exact ⟨C, dx, vs, q1, s _ _ q2, q3.ext (Ext.same s)⟩
  | ins c fs =>
    obtain ⟨C, d, q1, q2, q3⟩ := q
    exact ⟨C, d, q1, s _ _ q2, q3.keep fun dd ws z => s _ _ z⟩
  | gone => trivial⟩
theorem Ok.fresh (h : Ok K G io st H) {p : Addr} (hp : H p = none) : ¬ Wf G io p := fun q => by
  obtain ⟨o, e, _⟩ := h.trk p q
  rw [hp] at e; cases e
theorem aK.ext (h : aK K G io H env sg) (dj : ∀ a ∈ io, ¬ G a) (e : Ext io H io' H') : aK K G io' H' env sg := ⟨h.len, fun i s o e1 e2 => by
  have q := h.sl i s o e1 e2
  cases s with
  | un => trivial
  | val u =>
    obtain ⟨v, q1, q2⟩ := q
    exact ⟨v, q1, q2.ext e⟩
  | own us =>
    obtain ⟨a, vs, q1, q2, q3, q4⟩ := q
    exact ⟨a, vs, q1, q2, e.keep a _ (fun z => dj a z q2) q3, q4.ext e⟩⟩
end
noncomputable def aM {A : Type} (K : PySem.W.Frag) (G : Addr → Prop) (io : List Addr) (H : Hp) (R : Store → List Addr → Hp → A → Prop) (XR : Str → List (Str × U) → Store → List Addr → Hp → Prop) : Rs A → Prop
  | .ok a st' => ∀ io' H', Ok K G io' st' H' → Ext io H io' H' → R st' io' H' a
  | .ex c us st' => ∀ io' H', Ok K G io' st' H' → Ext io H io' H' → XR c us st' io' H'
  | .bad => False
section
variable {A B : Type} {K : PySem.W.Frag} {G : Addr → Prop} {io io1 : List Addr} {H H1 : Hp} {R R' : Store → List Addr → Hp → A → Prop} {XR XR' : Str → List (Str × U) → Store → List Addr → Hp → Prop}
theorem aM.imp {r : Rs A} (h : aM K G io H R XR r) (f : ∀ st' io' H' a, Ok K G io' st' H' → Ext io H io' H' → R st' io' H' a → R' st' io' H' a)
    (g : ∀ c us st' io' H', Ok K G io' st' H' → Ext io H io' H' → XR c us st' io' H' → XR' c us st' io' H') : aM K G io H R' XR' r := by
  cases r with
  | ok a st => exact fun io' H' o e => f st io' H' a o e (h io' H' o e)
  | ex c us st => exact fun io' H' o e => g c us st io' H' o e (h io' H' o e)
  | bad => exact h
theorem aM.aX {r : Rs A} (h : aM K G io H R XR r) (f : ∀ st' io' H' a, Ok K G io' st' H' → Ext io H io' H' → R st' io' H' a → R' st' io' H' a) : aM K G io H R' XR r := h.imp f fun _ _ _ _ _ _ _ q => q
theorem aM.later {r : Rs A} (h : aM K G io H R XR r) (e : Ext io H io1 H1) : aM K G io1 H1 R XR r := by
  cases r with
  | ok a st => exact fun io' H' o e' => h io' H' o (e.trans e')
  | ex c us st => exact fun io' H' o e' => h io' H' o (e.trans e')
  | bad => exact h
theorem aM.bind {R : Store → List Addr → Hp → B → Prop} {r : Rs A} {k : A → Store → Rs B} (h : aM K G io H R XR (r.bind k)) : aM K G io H (fun st1 io1 H1 a => aM K G io1 H1 R XR (k a st1)) XR r := by
  cases r with
  | ok a st => exact fun io' H' o e' => aM.later (r := k a st) h e'
  | ex c us st => exact h
  | bad => exact h
theorem aM.here {a : A} {st : Store} (h : aM K G io H R XR (.ok a st)) (ok : Ok K G io st H) : R st io H a := h io H ok (Ext.refl _ _)
theorem aM.nq {a : A} {st : Store} (h : aM K G io H R XR (.ok a st)) (ok : Ok K G io st H) (s : Same H H1) : R st io H1 a := h io H1 (ok.same s) (Ext.same s)
end
noncomputable abbrev XS := Str → List (Str × U) → Value → Option Addr → Hp → Prop
noncomputable abbrev XW (xs : XS) (wx : WX) (sg : L2.St) : Str → List (Str × U) → Store → List Addr → Hp → Prop := fun c us _ _ H' => ∀ cls d, xs c us cls d H' → wx cls d sg H'
noncomputable def tD (K : PySem.W.Frag) (xs : XS) (wx : WX) (f : DE) : TE := fun sg H Q => ∃ G io st env, Ok K G io st H ∧ aK K G io H env sg ∧
  aM K G io H (fun _ io' H' u => ∀ v, Rep K (Wf G io') io' H' u v → Q v H') (XW xs wx sg) (f env st)
noncomputable def tDT (K : PySem.W.Frag) (xs : XS) (wx : WX) (f : DT) : TT := fun sg H Q => ∃ G io st env, Ok K G io st H ∧ aK K G io H env sg ∧
  aM K G io H (fun _ _ H' b => Q b H') (XW xs wx sg) (f env st)
noncomputable def tDA (K : PySem.W.Frag) (xs : XS) (wx : WX) (f : DA) : TA := fun sg H Q => ∃ G io st env, Ok K G io st H ∧ aK K G io H env sg ∧
  aM K G io H (fun _ io' H' us => ∀ vs, aq K (Wf G io') io' H' us vs → Q vs H') (XW xs wx sg) (f env st)
theorem aW {X : Cx} {e : Expr} {t t' : TE} (h : PE X e t) (f : ∀ sg H Q, t' sg H Q → t sg H Q) : PE X e t' := ⟨fun pins s sg H Q I q => h.run pins s sg H Q I (f sg H Q q)⟩
theorem oK {X : Cx} {e : Expr} {t t' : TT} (h : PT X e t) (f : ∀ sg H Q, t' sg H Q → t sg H Q) : PT X e t' := ⟨fun pins s sg H Q I q => h.run pins s sg H Q I (f sg H Q q)⟩
theorem ue {X : Cx} {e : Expr} {t t' : TT} (h : PW X e t) (f : ∀ sg H Q, t' sg H Q → t sg H Q) : PW X e t' := ⟨fun wh pins s sg H Q I q => h.run wh pins s sg H Q I (f sg H Q q)⟩
theorem uE {X : Cx} {e : List Expr} {t t' : TA} (h : PA X e t) (f : ∀ sg H Q, t' sg H Q → t sg H Q) : PA X e t' := ⟨fun pos pins s sg H Q I q => h.run pos pins s sg H Q I (f sg H Q q)⟩
theorem gG {X : Cx} {e : Stmt} {t t' : TS} (h : PS X e t) (f : ∀ D sg H, t' D sg H → t D sg H) : PS X e t' := ⟨fun pins s sg H D I q => h.run pins s sg H D I (f D sg H q)⟩
theorem pV {X : Cx} {e : List Stmt} {t t' : TS} (h : PSs X e t) (f : ∀ D sg H, t' D sg H → t D sg H) : PSs X e t' := ⟨fun pins s sg H D I q => h.run pins s sg H D I (f D sg H q)⟩
noncomputable def cst (u : U) : DE := fun _ st => .ok u st
noncomputable def var (i : Nat) : DE := fun env st => match env[i]? with
  | some (.val u) => .ok u st
  | _ => .bad
noncomputable def bin (g : U → U → Option U) (a b : DE) : DE := fun env st => (a env st).bind fun u st1 => (b env st1).bind fun v st2 => Rs.of (g u v) st2
noncomputable def az : DA := fun _ st => .ok [] st
noncomputable def aa (a : DE) (b : DA) : DA := fun env st => (a env st).bind fun u st1 => (b env st1).bind fun us st2 => .ok (u :: us) st2
noncomputable def aQ (g : List U → Option U) (a : DA) : DE := fun env st => (a env st).bind fun us st1 => Rs.of (g us) st1
noncomputable def bo (g : List U → Store → Rs U) (a : DA) : DE := fun env st => (a env st).bind fun us st1 => g us st1
noncomputable def tst (a : DE) : DT := fun env st => (a env st).bind fun u st1 => match u with
  | .bl b => .ok b st1
  | _ => .bad
noncomputable def andT (a b : DT) : DT := fun env st => (a env st).bind fun c st1 => if c = true then b env st1 else .ok false st1
noncomputable def orT (a b : DT) : DT := fun env st => (a env st).bind fun c st1 => if c = true then .ok true st1 else b env st1
noncomputable def notT (a : DT) : DT := fun env st => (a env st).bind fun c st1 => .ok (!c) st1
noncomputable def chain (g h : U → U → Option U) (a b c : DE) : DE := fun env st => (a env st).bind fun u st1 => (b env st1).bind fun v st2 => match g u v with
  | some (.bl k) => if k = true then (c env st2).bind fun w st3 => Rs.of (h v w) st3 else .ok (.bl false) st2
  | _ => .bad
end D
namespace D
open PySem L2
section
variable {X : Cx} {xs : XS} {wx : WX} {pos : Pos}
theorem qP {e : Expr} {v : V} {u : U} (h : PE X e (tC v)) (r : ∀ G io H, Rep X.K (Wf G io) io H u v) : PE X e (tD X.K xs wx (cst u)) := aW h fun sg H Q q => by
  obtain ⟨G, io, st, env, ok, er, w⟩ := q
  exact w.here ok v (r _ _ _)
theorem aH {i j} : PE X (.Constant (.int i) j pos) (tD X.K xs wx (cst (.int i))) := qP pe_int fun _ _ _ => by unfold Rep; rfl
theorem d_bl {i j} : PE X (.Constant (.bool i) j pos) (tD X.K xs wx (cst (.bl i))) := qP pe_bl fun _ _ _ => by unfold Rep; rfl
theorem eQ {i j} : PE X (.Constant (.str i) j pos) (tD X.K xs wx (cst (.str i))) := qP pe_str fun _ _ _ => by unfold Rep; rfl
theorem Rs.of_bad {A : Type} {r : Rs A} {K G io H R XR} (h : aM (A := A) K G io H R XR r) : r ≠ .bad := fun e => by rw [e] at h; exact h
theorem d_var (i : Nat) {x : Str} (hN : X.N[i]? = some x) (hv : Vis X.env.scope x) (hd : (x == ("__debug__" : Str)) = false := by decide) (hcd : (x == ("__classdict__" : Str)) = false := by decide) : PE X (.Name x pos) (tD X.K xs wx (var i)) :=
  aW (pe_var (i := i) hN hv hd hcd) fun sg H Q q => by
    obtain ⟨G, io, st, env, ok, er, w⟩ := q
    unfold var at w
    split at w
    · rename_i u e
      have hi : i < sg.length := by rw [← er.len]; exact (List.getElem?_eq_some_iff.mp e).1
      obtain ⟨v, e1, r⟩ := er.sl i _ _ e (List.getElem?_eq_getElem hi)
      exact ⟨v, (List.getElem?_eq_getElem hi).trans (congrArg some e1), w.here ok v r⟩
    · exact w.elim
noncomputable def P2 (K : PySem.W.Frag) (g : U → U → Option U) : R2 := fun x y H Q => ∃ G io st u1 u2 u, Ok K G io st H ∧ Rep K (Wf G io) io H u1 x ∧ Rep K (Wf G io) io H u2 y ∧ g u1 u2 = some u ∧
  ∀ v H', Same H H' → Rep K (Wf G io) io H' u v → Q v H'
noncomputable def PN (K : PySem.W.Frag) (g : List U → Option U) : List V → Hp → VK → Prop := fun vs H Q => ∃ G io st us u, Ok K G io st H ∧ aq K (Wf G io) io H us vs ∧ g us = some u ∧
  ∀ v H', Same H H' → Rep K (Wf G io) io H' u v → Q v H'
theorem aM.pure {A : Type} {K G io H} {R : Store → List Addr → Hp → A → Prop} {XR} {o : Option A} {st : Store} (w : aM K G io H R XR (Rs.of o st)) : ∃ a, o = some a ∧ aM K G io H R XR (.ok a st) := by
  cases o with
  | none => exact w.elim
  | some a => exact ⟨a, rfl, w⟩
theorem h_ {g : U → U → Option U} {fa fb : DE} {sg : L2.St} {H : Hp} {Q : VK} (h : tD X.K xs wx (bin g fa fb) sg H Q) : tOp (P2 X.K g) (tD X.K xs wx fa) (tD X.K xs wx fb) sg H Q := by
  obtain ⟨G, io, st, env, ok, er, w⟩ := h
  refine ⟨G, io, st, env, ok, er, w.bind.aX fun st1 io1 H1 u ok1 e1 w1 v rv => ?_⟩
  refine ⟨G, io1, st1, env, ok1, er.ext ok.dj e1, w1.bind.aX fun st2 io2 H2 u2 ok2 e2 w2 v2 rv2 => ?_⟩
  obtain ⟨a, ha, w3⟩ := w2.pure
  exact ⟨G, io2, st2, u, u2, a, ok2, rv.ext e2, rv2, ha, fun v' H' s r => w3.nq ok2 s v' r⟩
theorem aR {op : Operator} {g : U → U → Option U} {a b : Expr} {fa fb : DE} (ho : OpR X (binaryOp op) (P2 X.K g)) (ha : PE X a (tD X.K xs wx fa)) (hb : PE X b (tD X.K xs wx fb)) : PE X (.BinOp a op b pos) (tD X.K xs wx (bin g fa fb)) :=
  aW (pe_op ho ha hb) fun _ _ _ h => h_ h
theorem vM {op : CmpOp} {g : U → U → Option U} {a b : Expr} {fa fb : DE} (ho : OpR X (compareOp op) (P2 X.K g)) (ha : PE X a (tD X.K xs wx fa)) (hb : PE X b (tD X.K xs wx fb)) (hm : behindInMarks op b = false := by first | exact nomark _ | rfl) : PE X (.Compare a [op] [b] pos) (tD X.K xs wx (bin g fa fb)) :=
  aW (pe_cmpR ho ha hb hm) fun _ _ _ h => h_ h
theorem mf {f : DE} {t : TE} {sg : L2.St} {H : Hp} {Q : Bool → Hp → Prop} (h : tDT X.K xs wx (tst f) sg H Q) : tD X.K xs wx f sg H (fun x H1 => ∃ k, x = .bl k ∧ Q k H1) := by
  obtain ⟨G, io, st, env, ok, er, w⟩ := h
  refine ⟨G, io, st, env, ok, er, w.bind.aX fun st1 io1 H1 u ok1 e1 w1 v rv => ?_⟩
  cases u with
  | bl b => exact ⟨b, by unfold Rep at rv; exact rv, w1.here ok1⟩
  | _ => exact w1.elim
theorem fZ {op : CmpOp} {g : U → U → Option U} {a b : Expr} {fa fb : DE} (ho : OpR X (compareOp op) (P2 X.K g)) (ha : PE X a (tD X.K xs wx fa)) (hb : PE X b (tD X.K xs wx fb)) (hm : behindInMarks op b = false := by first | exact nomark _ | rfl) :
    PT X (.Compare a [op] [b] pos) (tDT X.K xs wx (tst (bin g fa fb))) := oK (pt_cmpR ho ha hb hm) fun sg H Q h => by
  obtain ⟨G, io, st, env, ok, er, w⟩ := h
  refine h_ (Q := fun x H1 => ∃ k, x = .bl k ∧ Q k H1) ?_
  exact mf (t := tVar 0) ⟨G, io, st, env, ok, er, w⟩
theorem t_val {e : Expr} {f : DE} (h : PE X e (tD X.K xs wx f)) (he : ∀ whole, isTrue e X.env whole = (do let v ← whole; standAt e.pos; holding [v] (truthy v)) := by intro _; rfl) : PT X e (tDT X.K xs wx (tst f)) :=
  oK (pt_val h he) fun sg H Q h => mf (t := tVar 0) h
theorem t_not {e : Expr} {f : DT} (h : PT X e (tDT X.K xs wx f)) : PT X (.UnaryOp .Not e pos) (tDT X.K xs wx (notT f)) := oK (pt_not h) fun sg H Q h => by
  obtain ⟨G, io, st, env, ok, er, w⟩ := h
  exact ⟨G, io, st, env, ok, er, w.bind.aX fun st1 io1 H1 u ok1 e1 w1 => w1.here ok1⟩
variable {a b : Expr} {rest : List Expr}
theorem w_and1 {f : DT} (ha : PT X a (tDT X.K xs wx f)) : PW X (.BoolOp .And [a] pos) (tDT X.K xs wx f) := pw_and1 ha
theorem w_or1 {f : DT} (ha : PT X a (tDT X.K xs wx f)) : PW X (.BoolOp .Or [a] pos) (tDT X.K xs wx f) := pw_or1 ha
theorem w_and {f g : DT} (ha : PT X a (tDT X.K xs wx f)) (hb : PW X (.BoolOp .And (b :: rest) pos) (tDT X.K xs wx g)) : PW X (.BoolOp .And (a :: b :: rest) pos) (tDT X.K xs wx (andT f g)) := ue (pw_and ha hb) fun sg H Q h => by
  obtain ⟨G, io, st, env, ok, er, w⟩ := h
  refine ⟨G, io, st, env, ok, er, w.bind.aX fun st1 io1 H1 c ok1 e1 w1 => ?_⟩
  cases c with
  | true => exact ⟨G, io1, st1, env, ok1, er.ext ok.dj e1, w1⟩
  | false => exact aM.here (K := X.K) (G := G) (io := io1) (a := false) w1 ok1
theorem w_or {f g : DT} (ha : PT X a (tDT X.K xs wx f)) (hb : PW X (.BoolOp .Or (b :: rest) pos) (tDT X.K xs wx g)) : PW X (.BoolOp .Or (a :: b :: rest) pos) (tDT X.K xs wx (orT f g)) := ue (pw_or ha hb) fun sg H Q h => by
  obtain ⟨G, io, st, env, ok, er, w⟩ := h
  refine ⟨G, io, st, env, ok, er, w.bind.aX fun st1 io1 H1 c ok1 e1 w1 => ?_⟩
  cases c with
  | false => exact ⟨G, io1, st1, env, ok1, er.ext ok.dj e1, w1⟩
  | true => exact aM.here (K := X.K) (G := G) (io := io1) (a := true) w1 ok1
noncomputable def andV (a b : DE) : DE := fun env st => (a env st).bind fun u st1 => match u with
  | .bl c => if c = true then b env st1 else .ok (.bl false) st1
  | _ => .bad
noncomputable def orV (a b : DE) : DE := fun env st => (a env st).bind fun u st1 => match u with
  | .bl c => if c = true then .ok (.bl true) st1 else b env st1
  | _ => .bad
noncomputable def notV (a : DE) : DE := fun env st => (a env st).bind fun u st1 => match u with
  | .bl c => .ok (.bl (!c)) st1
  | _ => .bad
theorem d_one {op} {f : DE} (h : PE X a (tD X.K xs wx f)) : PE X (.BoolOp op [a] pos) (tD X.K xs wx f) := pe_one h
theorem d_and {f g : DE} (ha : PE X a (tD X.K xs wx f)) (hb : PE X (.BoolOp .And (b :: rest) pos) (tD X.K xs wx g)) : PE X (.BoolOp .And (a :: b :: rest) pos) (tD X.K xs wx (andV f g)) := aW (pe_and ha hb) fun sg H Q h => by
  obtain ⟨G, io, st, env, ok, er, w⟩ := h
  refine ⟨G, io, st, env, ok, er, w.bind.aX fun st1 io1 H1 u ok1 e1 w1 v rv => ?_⟩
  cases u with
  | bl c =>
    unfold Rep at rv
    refine ⟨c, rv, ?_⟩
    cases c with
    | true => exact ⟨G, io1, st1, env, ok1, er.ext ok.dj e1, w1⟩
    | false => exact aM.here (K := X.K) (G := G) (io := io1) (a := U.bl false) w1 ok1 _ (by unfold Rep; rfl)
  | _ => exact w1.elim
theorem d_not {f : DE} (ha : PE X a (tD X.K xs wx f)) : PE X (.UnaryOp .Not a pos) (tD X.K xs wx (notV f)) := aW (pe_not ha) fun sg H Q h => by
  obtain ⟨G, io, st, env, ok, er, w⟩ := h
  refine ⟨G, io, st, env, ok, er, w.bind.aX fun st1 io1 H1 u ok1 e1 w1 v rv => ?_⟩
  cases u with
  | bl c =>
    unfold Rep at rv
    exact ⟨c, rv, aM.here (K := X.K) (G := G) (io := io1) (a := U.bl (!c)) w1 ok1 _ (by unfold Rep; rfl)⟩
  | _ => exact w1.elim
noncomputable def ifE (c : DT) (a b : DE) : DE := fun env st => (c env st).bind fun t st1 => if t = true then a env st1 else b env st1
theorem aJ : PA X [] (tDA X.K xs wx az) := uE pa_nil fun sg H Q h => by
  obtain ⟨G, io, st, env, ok, er, w⟩ := h
  exact w.here ok _ .nil
theorem au {e : Expr} {es : List Expr} {f : DE} {g : DA} (ha : PE X e (tD X.K xs wx f)) (hr : PA X es (tDA X.K xs wx g)) (hs : starEach (e :: es) X.env = (false, eval e X.env) :: starEach es X.env := by rfl) : PA X (e :: es) (tDA X.K xs wx (aa f g)) := uE (pa_cons ha hr hs) fun sg H Q h => by
  obtain ⟨G, io, st, env, ok, er, w⟩ := h
  refine ⟨G, io, st, env, ok, er, w.bind.aX fun st1 io1 H1 u ok1 e1 w1 v rv => ?_⟩
  refine ⟨G, io1, st1, env, ok1, er.ext ok.dj e1, w1.bind.aX fun st2 io2 H2 us ok2 e2 w2 vs rvs => ?_⟩
  exact w2.here ok2 _ (.cons (rv.ext e2) rvs)
theorem fV {f : DA} {g : List U → Option U} {sg : L2.St} {H : Hp} {Q : VK} (h : tD X.K xs wx (aQ g f) sg H Q) : tDA X.K xs wx f sg H (fun vs H1 => PN X.K g vs H1 Q) := by
  obtain ⟨G, io, st, env, ok, er, w⟩ := h
  refine ⟨G, io, st, env, ok, er, w.bind.aX fun st1 io1 H1 us ok1 e1 w1 vs rvs => ?_⟩
  obtain ⟨u, hu, w2⟩ := w1.pure
  exact ⟨G, io1, st1, us, u, ok1, rvs, hu, fun v H' s r => w2.nq ok1 s v r⟩
theorem aO {H : Hp} {p : Addr} {o : HO} (h : H p = none) : Same H (upd H p o) := fun b x e => by
  rw [upd_ne (ne_of_none e h)]
  exact e
theorem Ok.uO {K : PySem.W.Frag} {G : Addr → Prop} {io : List Addr} {st : Store} {H : Hp} (ok : Ok K G io st H) {p : Addr} (hp : H p = none) {us : List U} {vs : List V} (r : aq K (Wf G io) io H us vs) : Rep K (Wf G io) io (upd H p (.tup vs)) (.tup us) (.ref p) := by
  unfold Rep
  exact ⟨p, vs, rfl, .inl ⟨.inl upd_same, ok.fresh hp⟩, r.ext (Ext.same (aO hp))⟩
theorem Ok.bO {K : PySem.W.Frag} {G : Addr → Prop} {io : List Addr} {st : Store} {H : Hp} (ok : Ok K G io st H) {p : Addr} (hp : H p = none) {us : List U} {vs : List V} (r : aq K (Wf G io) io H us vs) : Rep K (Wf G io) io (upd H p (.lst vs)) (.lst us) (.ref p) := by
  unfold Rep
  exact ⟨p, vs, rfl, ⟨upd_same, ok.fresh hp⟩, r.ext (Ext.same (aO hp))⟩
noncomputable def szT (us : List U) : Option U := if us.length ≤ sizeLine then some (.tup us) else none
noncomputable def szL (us : List U) : Option U := if us.length ≤ sizeLine then some (.lst us) else none
theorem jL {es : List Expr} {x1} {f : DA} (h : PA X es (tDA X.K xs wx f)) : PE X (.Tuple es x1 pos) (tD X.K xs wx (aQ szT f)) := aW (pe_tup h) fun sg H Q q => by
  obtain ⟨G, io, st, env, ok, er, w⟩ := fV q
  refine ⟨G, io, st, env, ok, er, w.aX fun st1 io1 H1 us ok1 e1 w1 vs rvs => ?_⟩
  obtain ⟨G', io', st', us', u, ok', rvs', hu, fin⟩ := w1 vs rvs
  unfold szT at hu
  split at hu
  · rename_i hz
    cases hu
    refine ⟨by rw [← rvs'.length]; exact hz, fun p hp => fin _ _ (aO hp) (ok'.uO hp rvs')⟩
  · cases hu
theorem qO {es : List Expr} {f : DA} (h : PA X es (tDA X.K xs wx f)) : PE X (.List es pos) (tD X.K xs wx (aQ szL f)) := aW (pe_lst h) fun sg H Q q => by
  obtain ⟨G, io, st, env, ok, er, w⟩ := fV q
  refine ⟨G, io, st, env, ok, er, w.aX fun st1 io1 H1 us ok1 e1 w1 vs rvs => ?_⟩
  obtain ⟨G', io', st', us', u, ok', rvs', hu, fin⟩ := w1 vs rvs
  unfold szL at hu
  split at hu
  · rename_i hz
    cases hu
    refine ⟨by rw [← rvs'.length]; exact hz, fun p hp => fin _ _ (aO hp) (ok'.bO hp rvs')⟩
  · cases hu
theorem dH {id : String} {x : Str} {p : Pos} {e : Expr} {es : List Expr} {g : List U → Option U} {f : DA} (hc : CallR X (.builtin id) (PN X.K g)) (hg : Gl X x) (hm : X.mg x = none) (hv : bootBuiltins x = some (.builtin id)) (ha : PA X (e :: es) (tDA X.K xs wx f)) (hn : x ≠ "__name__" := by decide)
    (hdb : (x == ("__debug__" : Str)) = false := by decide) (he : starEach (e :: es) X.env = (false, eval e X.env) :: starEach es X.env := by rfl) (hpl : (backTo pos (starEach es X.env)).any (·.1) = false := by rfl) : PE X (.Call (.Name x p) (e :: es) [] pos) (tD X.K xs wx (aQ g f)) :=
  aW (pe_callB hc hg hm hv ha hn hdb he hpl) fun _ _ _ h => fV h
theorem g8 {T : String} {x : Str} {p : Pos} {e : Expr} {es : List Expr} {g : List U → Option U} {f : DA} (hc : CallR X (.type T) (PN X.K g)) (hg : Gl X x) (hm : X.mg x = none) (hv : bootBuiltins x = some (.type T)) (ha : PA X (e :: es) (tDA X.K xs wx f)) (hn : x ≠ "__name__" := by decide)
    (hdb : (x == ("__debug__" : Str)) = false := by decide) (he : starEach (e :: es) X.env = (false, eval e X.env) :: starEach es X.env := by rfl) (hpl : (backTo pos (starEach es X.env)).any (·.1) = false := by rfl) : PE X (.Call (.Name x p) (e :: es) [] pos) (tD X.K xs wx (aQ g f)) :=
  aW (pe_callTy hc hg hm hv ha hn hdb he hpl) fun _ _ _ h => fV h
noncomputable def spD (K : PySem.W.Frag) (xs : XS) (n : Nat) (g : List U → Store → Rs U) : Sp := fun vs H Q E => vs.length = n ∧ ∃ G io st us, Ok K G io st H ∧ aq K (Wf G io) io H us vs ∧
  aM K G io H (fun _ io' H' u => ∀ v, Rep K (Wf G io') io' H' u v → Q v H') (fun c us _ _ H' => ∀ cls d, xs c us cls d H' → E cls d H') (g us st)
theorem d_call {k : Nat} {f : Addr} {fd : FuncData} {ps : List Str} {n : Nat} {x : Str} {p : Pos} {e : Expr} {es : List Expr} {g : List U → Store → Rs U} {fa : DA} (tk : Takes X wx) (F : FnOk X.prog X.w X.K X.mg X.base (L2.CX X.prog X.w) k f fd ps (spD X.K xs n g)) (hr : Room k X.A) (hg : Gl X x) (hm : X.mg x = some (.ref f))
    (hk : PySem.W.keepIn X.K (.ref f) = true) (hb : Binds X.K fd ps []) (hgn : ∀ us st, us.length ≠ n → g us st = .bad) (ha : PA X (e :: es) (tDA X.K xs wx fa)) (hdb : (x == ("__debug__" : Str)) = false := by decide)
    (he : starEach (e :: es) X.env = (false, eval e X.env) :: starEach es X.env := by rfl) (hpl : (backTo pos (starEach es X.env)).any (·.1) = false := by rfl) : PE X (.Call (.Name x p) (e :: es) [] pos) (tD X.K xs wx (bo g fa)) :=
  aW (pe_callSD (E := WE wx) (dvs := []) F hr hg hm hk hb .nil (fun s => passAt tk s) ha hdb he hpl) fun sg H Q h => by
    obtain ⟨G, io, st, env, ok, er, w⟩ := h
    refine ⟨G, io, st, env, ok, er, w.bind.aX fun st1 io1 H1 us ok1 e1 w1 vs rvs => ?_⟩
    have hn : us.length = n := Decidable.byContradiction fun z => by rw [hgn us st1 z] at w1; exact w1
    exact ⟨by rw [List.append_nil, ← rvs.length]; exact hn, G, io1, st1, us, ok1, by rw [List.append_nil]; exact rvs, w1⟩
end
inductive Out where
  | nx (env : Env) (st : Store) | rt (u : U) (st : Store) | bk (env : Env) (st : Store) | ct (env : Env) (st : Store) | ex (c : Str) (us : List (Str × U)) (env : Env) (st : Store) | bad
noncomputable abbrev DS := Env → Store → Out
noncomputable def Rs.out {A : Type} (r : Rs A) (env : Env) (k : A → Store → Out) : Out := match r with
  | .ok a st => k a st
  | .ex c us st => .ex c us env st
  | .bad => .bad
noncomputable def Out.seq (o : Out) (k : Env → Store → Out) : Out := match o with
  | .nx env st => k env st
  | o => o
noncomputable def Ow (env : Env) (sg : L2.St) (a : Addr) : Prop := ∃ (i : Nat) (us : List U), env[i]? = some (.own us) ∧ sg[i]? = some (some (.ref a))
noncomputable def Gs (F : Addr → Prop) (env : Env) (sg : L2.St) : Addr → Prop := fun a => F a ∨ Ow env sg a
structure Fr (K : PySem.W.Frag) (F : Addr → Prop) (io : List Addr) (st : Store) (env : Env) (sg : L2.St) (H : Hp) : Prop where
  ok : Ok K (Gs F env sg) io st H
  er : aK K (Gs F env sg) io H env sg
  nF : ∀ a, Ow env sg a → ¬ F a
  dd : ∀ (i j : Nat) (a : Addr) (us us' : List U), env[i]? = some (.own us) → env[j]? = some (.own us') → sg[i]? = some (some (.ref a)) → sg[j]? = some (some (.ref a)) → i = j
structure cG (io : List Addr) (H : Hp) (O : Addr → Prop) (io' : List Addr) (H' : Hp) (O' : Addr → Prop) : Prop where
  pre : ∃ more, io' = io ++ more ∧ ∀ a ∈ more, H a = none ∨ O a
  keep : ∀ a o, a ∉ io → ¬ O a → H a = some o → H' a = some o
  stay : ∀ a o, H a = some o → ∃ o', H' a = some o'
  own : ∀ a, O' a → O a ∨ H a = none
section
variable {K : PySem.W.Frag} {F : Addr → Prop} {io io1 io2 io' : List Addr} {st st' : Store} {env env' : Env} {sg sg' : L2.St} {H H1 H2 H' : Hp} {O O1 O2 : Addr → Prop}
theorem Ext.o (e : Ext io H io' H') (O : Addr → Prop) : cG io H O io' H' O := ⟨let ⟨m, q1, q2⟩ := e.pre; ⟨m, q1, fun a h => .inl (q2 a h)⟩, fun a o h _ q => e.keep a o h q, e.stay, fun _ h => .inl h⟩
theorem cG.refl (io : List Addr) (H : Hp) (O : Addr → Prop) : cG io H O io H O := (Ext.refl io H).o O
theorem cG.trans (a : cG io H O io1 H1 O1) (b : cG io1 H1 O1 io2 H2 O2) : cG io H O io2 H2 O2 := by
  obtain ⟨m1, e1, f1⟩ := a.pre
  obtain ⟨m2, e2, f2⟩ := b.pre
  have back : ∀ x, H1 x = none → H x = none := fun x h => by
    cases q : H x with
    | none => rfl
    | some o =>
      obtain ⟨o', e⟩ := a.stay x o q
      rw [e] at h; cases h
  refine ⟨⟨m1 ++ m2, by rw [e2, e1, List.append_assoc], fun x hx => ?_⟩, fun x o hx hO h => ?_, fun x o h => let ⟨o1, e1⟩ := a.stay x o h; b.stay x o1 e1, fun x h => ?_⟩
  · rcases List.mem_append.mp hx with h | h
    · exact f1 x h
    · rcases f2 x h with z | z
      · exact .inl (back x z)
      · exact (a.own x z).symm
  · refine b.keep x o (fun z => ?_) (fun z => ?_) (a.keep x o hx hO h)
    · rw [e1] at z
      rcases List.mem_append.mp z with z | z
      · exact hx z
      · rcases f1 x z with y | y
        · rw [y] at h; cases h
        · exact hO y
    · rcases a.own x z with z | z
      · exact hO z
      · rw [z] at h; cases h
  · rcases b.own x h with h | h
    · exact a.own x h
    · exact .inr (back x h)
theorem cG.mono (e : cG io H (Ow env sg) io' H' (Ow env' sg')) : b_ (Gs F env sg) io H (Gs F env' sg') io' H' := by
  obtain ⟨m, rfl, f⟩ := e.pre
  refine ⟨⟨m, rfl⟩, fun a o n h => ⟨e.keep a o (fun z => n (.inr z)) (fun z => n (.inl (.inr z))) h, ?_⟩⟩
  rintro ((z | z) | z)
  · exact n (.inl (.inl z))
  · rcases e.own a z with z | z
    · exact n (.inl (.inr z))
    · rw [z] at h; cases h
  · rcases List.mem_append.mp z with z | z
    · exact n (.inr z)
    · rcases f a z with y | y
      · rw [y] at h; cases h
      · exact n (.inl (.inr y))
theorem Ok.mono {G G' : Addr → Prop} (ok : Ok K G io st H) (sub : ∀ a, G' a → G a) : Ok K G' io st H := by
  have m : b_ G io H G' io H := ⟨⟨[], by simp⟩, fun a o n h => ⟨h, fun z => n (z.imp (sub a) id)⟩⟩
  refine ⟨ok.nd, fun a h z => ok.dj a h (sub a z), fun a h => ok.trk a (h.imp (sub a) id), ok.len, fun n ob a e1 e2 => ?_⟩
  have q := ok.obs n ob a e1 e2
  cases ob with
  | lst us => obtain ⟨vs, q1, q2⟩ := q; exact ⟨vs, q1, q2.mono m⟩
  | dct ks us => obtain ⟨kvs, q1, q2, q3⟩ := q; exact ⟨kvs, q1, q2, q3.mono m⟩
  | dcT ks us => obtain ⟨kvs, q1, q2, q3⟩ := q; exact ⟨kvs, q1, q2, q3.mono m⟩
  | dcN w kvs => obtain ⟨xs, q1, q2, q3⟩ := q; exact ⟨xs, q1, q2, q3.mono m⟩
  | obj c fs => obtain ⟨C, dx, vs, q1, q2, q3⟩ := q; exact ⟨C, dx, vs, q1, q2, q3.mono m⟩
  | ins _ _ => exact q
  | gone => trivial
theorem Fr.ext (f : Fr K F io st env sg H) (ok : Ok K (Gs F env sg) io' st' H') (e : Ext io H io' H') : Fr K F io' st' env sg H' := ⟨ok, f.er.ext f.ok.dj e, f.nF, f.dd⟩
theorem gH {i : Nat} {u : U} {o : Option V} {a : Addr} (h : Ow (env.set i (.val u)) (sg.set i o) a) : Ow env sg a := by
  obtain ⟨j, us, h1, h2⟩ := h
  by_cases hj : i = j
  · subst hj
    by_cases hl : i < env.length
    · rw [List.getElem?_set_self hl] at h1; cases h1
    · rw [List.getElem?_eq_none (by simpa using Nat.le_of_not_lt hl)] at h1; cases h1
  · rw [List.getElem?_set_ne hj] at h1 h2
    exact ⟨j, us, h1, h2⟩
theorem Fr.jo (f : Fr K F io st env sg H) {i : Nat} {u : U} {v : V} (r : Rep K (Wf (Gs F env sg) io) io H u v) :
    Fr K F io st (env.set i (.val u)) (sg.set i (some v)) H ∧ cG io H (Ow env sg) io H (Ow (env.set i (.val u)) (sg.set i (some v))) := by
  have sub : ∀ a, Gs F (env.set i (.val u)) (sg.set i (some v)) a → Gs F env sg a := fun a h => h.imp id gH
  have ex : cG io H (Ow env sg) io H (Ow (env.set i (.val u)) (sg.set i (some v))) := ⟨⟨[], by simp, fun _ h => nomatch h⟩, fun _ _ _ _ h => h, fun _ o h => ⟨o, h⟩, fun a h => .inl (gH h)⟩
  have m := ex.mono (F := F)
  refine ⟨⟨f.ok.mono sub, ⟨by simp [f.er.len], fun j s o h1 h2 => ?_⟩, fun a h => f.nF a (gH h), fun j k a us us' h1 h2 h3 h4 => ?_⟩, ex⟩
  · by_cases hj : i = j
    · subst hj
      by_cases hl : i < env.length
      · rw [List.getElem?_set_self hl] at h1
        rw [List.getElem?_set_self (by rw [← f.er.len]; exact hl)] at h2
        cases h1; cases h2
        exact ⟨v, rfl, r.mono m⟩
      · rw [List.getElem?_eq_none (by simpa using Nat.le_of_not_lt hl)] at h1; cases h1
    · have g1 := h1; have g2 := h2
      rw [List.getElem?_set_ne hj] at h1 h2
      have q := f.er.sl j s o h1 h2
      cases s with
      | un => trivial
      | val u' => obtain ⟨v', q1, q2⟩ := q; exact ⟨v', q1, q2.mono m⟩
      | own us =>
        obtain ⟨a, vs, q1, q2, q3, q4⟩ := q
        subst q1
        exact ⟨a, vs, rfl, .inr ⟨j, us, g1, g2⟩, q3, q4.mono m⟩
  · have nj : ∀ (k : Nat) (us : List U), (env.set i (.val u))[k]? = some (.own us) → i ≠ k := fun k us h e => by
      subst e
      by_cases hl : i < env.length
      · rw [List.getElem?_set_self hl] at h; cases h
      · rw [List.getElem?_eq_none (by simpa using Nat.le_of_not_lt hl)] at h; cases h
    have n1 := nj j us h1
    have n2 := nj k us' h2
    rw [List.getElem?_set_ne n1] at h1 h3
    rw [List.getElem?_set_ne n2] at h2 h4
    exact f.dd j k a us us' h1 h2 h3 h4
end
noncomputable def aV (K : PySem.W.Frag) (F : Addr → Prop) (io : List Addr) (H : Hp) (O : Addr → Prop) (D : Ends) (xs : XS) (wx : WX) : Out → Prop
  | .nx env' st' => ∀ io' sg' H', Fr K F io' st' env' sg' H' → cG io H O io' H' (Ow env' sg') → D.nx sg' H'
  | .bk env' st' => ∀ io' sg' H', Fr K F io' st' env' sg' H' → cG io H O io' H' (Ow env' sg') → D.bk sg' H'
  | .ct env' st' => ∀ io' sg' H', Fr K F io' st' env' sg' H' → cG io H O io' H' (Ow env' sg') → D.ct sg' H'
  | .rt u st' => ∀ io' H' v, Ok K F io' st' H' → cG io H O io' H' (fun _ => False) → Rep K (Wf F io') io' H' u v → D.rt v H'
  | .ex c us env' st' => ∀ io' sg' H', Fr K F io' st' env' sg' H' → cG io H O io' H' (Ow env' sg') → ∀ cls d, xs c us cls d H' → wx cls d sg' H'
  | .bad => False
noncomputable def tDS (K : PySem.W.Frag) (xs : XS) (wx : WX) (f : DS) : TS := fun D sg H => ∃ F io st env, Fr K F io st env sg H ∧ aV K F io H (Ow env sg) D xs wx (f env st)
section
variable {K : PySem.W.Frag} {F : Addr → Prop} {io io1 : List Addr} {st : Store} {env env1 : Env} {sg : L2.St} {H H1 : Hp} {O O1 : Addr → Prop} {D : Ends} {xs : XS} {wx : WX}
theorem aV.later {o : Out} (h : aV K F io H O D xs wx o) (e : cG io H O io1 H1 O1) : aV K F io1 H1 O1 D xs wx o := by
  cases o with
  | nx env' st' => exact fun io' sg' H' f e' => h io' sg' H' f (e.trans e')
  | bk env' st' => exact fun io' sg' H' f e' => h io' sg' H' f (e.trans e')
  | ct env' st' => exact fun io' sg' H' f e' => h io' sg' H' f (e.trans e')
  | rt u st' => exact fun io' H' v f e' => h io' H' v f (e.trans e')
  | ex c us env' st' => exact fun io' sg' H' f e' => h io' sg' H' f (e.trans e')
  | bad => exact h
theorem aV.expr {A : Type} {r : Rs A} {k : A → Store → Out} (f : Fr K F io st env sg H) (h : aV K F io H (Ow env sg) D xs wx (r.out env k)) :
    aM K (Gs F env sg) io H (fun st1 io1 H1 a => Fr K F io1 st1 env sg H1 ∧ aV K F io1 H1 (Ow env sg) D xs wx (k a st1)) (XW xs wx sg) r := by
  cases r with
  | ok a st1 => exact fun io' H' ok e => ⟨f.ext ok e, aV.later h (e.o _)⟩
  | ex c us st1 => exact fun io' H' ok e => h io' sg H' (f.ext ok e) (e.o _)
  | bad => exact h
end
section
variable {X : Cx} {xs : XS} {wx : WX} {pos : Pos}
noncomputable def bL : DS := fun env st => .nx env st
noncomputable def aF (f g : DS) : DS := fun env st => (f env st).seq g
theorem aZ : PSs X [] (tDS X.K xs wx bL) := pV pss_nil fun D sg H h => by
  obtain ⟨F, io, st, env, f, w⟩ := h
  exact w io sg H f (cG.refl _ _ _)
theorem aw {s : Stmt} {rest : List Stmt} {f g : DS} (h1 : PS X s (tDS X.K xs wx f)) (h2 : PSs X rest (tDS X.K xs wx g)) : PSs X (s :: rest) (tDS X.K xs wx (aF f g)) := pV (pss_cons h1 h2) fun D sg H h => by
  obtain ⟨F, io, st, env, fr, w⟩ := h
  refine ⟨F, io, st, env, fr, ?_⟩
  unfold aF at w
  cases q : f env st with
  | nx env' st' =>
    rw [q] at w
    exact fun io' sg' H' fr' e' => ⟨F, io', st', env', fr', aV.later w e'⟩
  | _ => rw [q] at w; exact w
noncomputable def sExpr (f : DE) : DS := fun env st => (f env st).out env fun _ st1 => .nx env st1
noncomputable def di (f : DE) : DS := fun env st => (f env st).out env fun u st1 => .rt u st1
theorem s_ret {e : Expr} {f : DE} (he : PE X e (tD X.K xs wx f)) : PS X (.Return (some e) pos) (tDS X.K xs wx (di f)) := gG (ps_ret he) fun D sg H h => by
  obtain ⟨F, io, st, env, fr, w⟩ := h
  refine ⟨Gs F env sg, io, st, env, fr.ok, fr.er, (aV.expr fr w).aX fun st1 io1 H1 a ok1 e1 q v rv => ?_⟩
  have m : b_ (Gs F env sg) io1 H1 F io1 H1 := ⟨⟨[], by simp⟩, fun a o n h => ⟨h, fun z => n (z.imp .inl id)⟩⟩
  exact q.2 io1 H1 v (q.1.ok.mono fun _ => .inl) ⟨⟨[], by simp, fun _ h => nomatch h⟩, fun _ _ _ _ h => h, fun _ o h => ⟨o, h⟩, fun _ h => h.elim⟩ (rv.mono m)
noncomputable def sIf (c : DT) (f g : DS) : DS := fun env st => (c env st).out env fun b st1 => if b = true then f env st1 else g env st1
theorem s_if {c : Expr} {a b : List Stmt} {t : DT} {f g : DS} (hc : PT X c (tDT X.K xs wx t)) (ha : PSs X a (tDS X.K xs wx f)) (hb : PSs X b (tDS X.K xs wx g)) : PS X (.If c a b pos) (tDS X.K xs wx (sIf t f g)) := gG (ps_if hc ha hb) fun D sg H h => by
  obtain ⟨F, io, st, env, fr, w⟩ := h
  refine ⟨Gs F env sg, io, st, env, fr.ok, fr.er, (aV.expr fr w).aX fun st1 io1 H1 b ok1 e1 q => ?_⟩
  cases b with
  | true => exact ⟨F, io1, st1, env, q.1, q.2⟩
  | false => exact ⟨F, io1, st1, env, q.1, q.2⟩
noncomputable def bh (i : Nat) (f : DE) : DS := fun env st => (f env st).out env fun u st1 => .nx (env.set i (.val u)) st1
theorem s_set {i : Nat} {x : Str} {e : Expr} {f : DE} {pos' : Pos} (hN : X.N.Nodup) (hi : X.N[i]? = some x) (hx : Loc X.env.scope x) (he : PE X e (tD X.K xs wx f)) (hs : swapsWith e (some (.Name x pos')) pos.line X.env = Pure.pure false := by rfl)
    (hf : X.fn x = true ∨ X.env.scope.names.lookup x = some .local := by first | exact .inl rfl | exact .inr rfl | assumption) : PS X (.Assign [.Name x pos'] e pos) (tDS X.K xs wx (bh i f)) := gG (ps_set hN hi hx he hs hf) fun D sg H h => by
  obtain ⟨F, io, st, env, fr, w⟩ := h
  refine ⟨Gs F env sg, io, st, env, fr.ok, fr.er, (aV.expr fr w).aX fun st1 io1 H1 u ok1 e1 q v rv => ?_⟩
  have z := q.1.jo (i := i) rv
  exact q.2 io1 _ H1 z.1 z.2
noncomputable abbrev DL := Env → Store → Rs (List U)
noncomputable def tDL (K : PySem.W.Frag) (xs : XS) (wx : WX) (f : DL) : TE := fun sg H Q => ∃ G io st env, Ok K G io st H ∧ aK K G io H env sg ∧
  aM K G io H (fun _ io' H' us => ∀ vs a, aq K (Wf G io') io' H' us vs → H' a = none → Q (.ref a) (upd H' a (.lst vs))) (XW xs wx sg) (f env st)
noncomputable def bO (f : DL) : DE := fun env st => (f env st).bind fun us st1 => .ok (.lst us) st1
theorem fH {e : Expr} {f : DL} (h : PE X e (tDL X.K xs wx f)) : PE X e (tD X.K xs wx (bO f)) := aW h fun sg H Q q => by
  obtain ⟨G, io, st, env, ok, er, w⟩ := q
  refine ⟨G, io, st, env, ok, er, w.bind.aX fun st1 io1 H1 us ok1 e1 w1 vs a rvs na => ?_⟩
  exact w1.nq ok1 (aO na) _ (ok1.bO na rvs)
noncomputable def szDL (f : DA) : DL := fun env st => (f env st).bind fun us st1 => if us.length ≤ sizeLine then .ok us st1 else .bad
theorem l_lst {es : List Expr} {f : DA} (h : PA X es (tDA X.K xs wx f)) : PE X (.List es pos) (tDL X.K xs wx (szDL f)) := aW (pe_lst h) fun sg H Q q => by
  obtain ⟨G, io, st, env, ok, er, w⟩ := q
  refine ⟨G, io, st, env, ok, er, w.bind.aX fun st1 io1 H1 us ok1 e1 w1 vs rvs => ?_⟩
  split at w1
  · rename_i hz
    exact ⟨by rw [← rvs.length]; exact hz, fun p hp => w1.here ok1 vs p rvs hp⟩
  · exact w1.elim
noncomputable def sOwn (i : Nat) (f : DL) : DS := fun env st => (f env st).out env fun us st1 => if i < env.length then .nx (env.set i (.own us)) st1 else .bad
noncomputable def sApp (i : Nat) (f : DE) : DS := fun env st => match env[i]? with
  | some (.own us) => (f env st).out env fun u st1 => if us.length < sizeLine then .nx (env.set i (.own (us ++ [u]))) st1 else .bad
  | _ => .bad
end
noncomputable abbrev Tg := U → Option (List (Nat × U))
noncomputable def bf (env : Env) (l : List (Nat × U)) : Env := l.foldl (fun e p => e.set p.1 (.val p.2)) env
noncomputable def jP (sg : L2.St) (l : List (Nat × V)) : L2.St := l.foldl (fun e p => e.set p.1 (some p.2)) sg
noncomputable def gD (K : PySem.W.Frag) (t : Tg) : TG := fun v sg H Q => ∃ G io u l, Rep K (Wf G io) io H u v ∧ t u = some l ∧ ∀ vs, aq K (Wf G io) io H (l.map (·.2)) vs → Q (jP sg ((l.map (·.1)).zip vs)) H
theorem uz {X : Cx} {e : Expr} {t t' : TG} (h : PG X e t) (f : ∀ v sg H Q, t' v sg H Q → t v sg H Q) : PG X e t' := ⟨fun pins s sg H v u Q I r q => h.run pins s sg H v u Q I r (f v sg H Q q)⟩
noncomputable def tgN (i : Nat) : Tg := fun u => some [(i, u)]
noncomputable def tgT (is : List Nat) : Tg := fun u => match u with
  | .tup us => if us.length = is.length then some (is.zip us) else none
  | _ => none
section
variable {X : Cx} {xs : XS} {wx : WX} {pos : Pos}
theorem g_name {i : Nat} {x : Str} (hN : X.N.Nodup) (hi : X.N[i]? = some x) (hx : Loc X.env.scope x) (hf : X.fn x = true ∨ X.env.scope.names.lookup x = some .local := by first | exact .inl rfl | exact .inr rfl | assumption) : PG X (.Name x pos) (gD X.K (tgN i)) :=
  uz (pg_name hN hi hx hf) fun v sg H Q h => by
    obtain ⟨G, io, u, l, r, e, q⟩ := h
    cases e
    exact q [v] (.cons r .nil)
inductive dR (X : Cx) : List Expr → List Nat → Prop
  | nil : dR X [] []
  | cons {x : Str} {p : Pos} {i : Nat} {es : List Expr} {is : List Nat} (hi : X.N[i]? = some x) (hx : Loc X.env.scope x) (hf : X.fn x = true ∨ X.env.scope.names.lookup x = some .local) (t : dR X es is) : dR X (.Name x p :: es) (i :: is)
noncomputable def gSet : List Nat → TGs
  | [] => gNil
  | i :: is => gCons (gName i) (gSet is)
theorem dR.pgs (hN : X.N.Nodup) : ∀ {es : List Expr} {is : List Nat}, dR X es is → PGs X es (gSet is) ∧ (assignEach es X.env).length = is.length ∧ (assignEach es X.env).findIdx? (·.1) = none
  | _, _, .nil => ⟨pgs_nil, rfl, rfl⟩
  | _, _, .cons hi hx hf t => by
    obtain ⟨h1, h2, h3⟩ := dR.pgs hN t
    refine ⟨pgs_cons (pg_name hN hi hx hf) h1 rfl, ?_, ?_⟩
    · show (_ :: assignEach _ X.env).length = _
      simp [h2]
    · show List.findIdx? _ ((false, _) :: assignEach _ X.env) = none
      rw [List.findIdx?_cons]
      simp [h3]
theorem qC {Q : L2.St → Hp → Prop} {H : Hp} : ∀ (is : List Nat) (vs : List V) (sg : L2.St), vs.length = is.length → Q (jP sg (is.zip vs)) H → gSet is vs sg H Q
  | [], vs, sg, hl, h => ⟨List.eq_nil_of_length_eq_zero (by simpa using hl), h⟩
  | i :: is, [], sg, hl, h => by simp at hl
  | i :: is, v :: vs, sg, hl, h => ⟨v, vs, rfl, qC is vs (sg.set i (some v)) (by simpa using hl) h⟩
theorem pH {α β : Type} : ∀ (a : List α) (b : List β), b.length = a.length → (a.zip b).map (·.1) = a
  | [], _, _ => by simp
  | x :: a, [], h => by simp at h
  | x :: a, y :: b, h => by simp [pH a b (by simpa using h)]
theorem pG {α β : Type} : ∀ (a : List α) (b : List β), b.length = a.length → (a.zip b).map (·.2) = b
  | [], b, h => by simp at h; simp [h]
  | x :: a, [], h => by simp at h
  | x :: a, y :: b, h => by simp [pG a b (by simpa using h)]
theorem g_tup {es : List Expr} {k : Nat} {is : List Nat} (hc : X.calm = true) (hN : X.N.Nodup) (h : dR X es is) : PG X (.Tuple es k pos) (gD X.K (tgT is)) := by
  obtain ⟨h1, h2, h3⟩ := dR.pgs hN h
  refine uz (pg_tup hc h1 h2 h3) fun v sg H Q q => ?_
  obtain ⟨G, io, u, l, r, e, q⟩ := q
  cases u with
  | tup us =>
    unfold tgT at e
    simp only at e
    split at e
    · rename_i hl
      cases e
      unfold Rep at r
      obtain ⟨a, vs, rfl, lt, rs⟩ := r
      have hv : vs.length = is.length := by rw [← rs.length]; exact hl
      rw [pH _ _ hl, pG _ _ hl] at q
      exact ⟨a, vs, rfl, lt.sq, hv, qC is vs sg hv (q vs rs)⟩
    · cases e
  | _ => cases e
end
section
variable {K : PySem.W.Frag} {F G : Addr → Prop} {io : List Addr} {st : Store} {env : Env} {sg : L2.St} {H : Hp}
theorem aK.jo (e : aK K G io H env sg) {i : Nat} {u : U} {v : V} (r : Rep K (Wf G io) io H u v) : aK K G io H (env.set i (.val u)) (sg.set i (some v)) := ⟨by simp [e.len], fun j s o h1 h2 => by
  by_cases hj : i = j
  · subst hj
    by_cases hl : i < env.length
    · rw [List.getElem?_set_self hl] at h1
      rw [List.getElem?_set_self (by rw [← e.len]; exact hl)] at h2
      cases h1; cases h2
      exact ⟨v, rfl, r⟩
    · rw [List.getElem?_eq_none (by simpa using Nat.le_of_not_lt hl)] at h1; cases h1
  · rw [List.getElem?_set_ne hj] at h1 h2
    exact e.sl j s o h1 h2⟩
theorem aK.jr : ∀ (l : List (Nat × U)) (vs : List V) {env : Env} {sg : L2.St}, aK K G io H env sg → aq K (Wf G io) io H (l.map (·.2)) vs → aK K G io H (bf env l) (jP sg ((l.map (·.1)).zip vs))
  | [], vs, _, _, e, r => by simpa [bf, jP] using e
  | p :: l, vs, _, _, e, r => by
    obtain ⟨v, vr, rfl, r1, r2⟩ := r.uncons
    exact aK.jr l vr (e.jo r1) r2
theorem aK.wipe1 (e : aK K G io H env sg) (i : Nat) : aK K G io H (env.set i .un) (sg.set i none) := ⟨by simp [e.len], fun j s o h1 h2 => by
  by_cases hj : i = j
  · subst hj
    by_cases hl : i < env.length
    · rw [List.getElem?_set_self hl] at h1
      cases h1
      trivial
    · rw [List.getElem?_eq_none (by simpa using Nat.le_of_not_lt hl)] at h1; cases h1
  · rw [List.getElem?_set_ne hj] at h1 h2
    exact e.sl j s o h1 h2⟩
noncomputable def bR (env : Env) : List Nat → Env
  | [] => env
  | v :: vs => (bR env vs).set v .un
theorem aK.wipe (e : aK K G io H env sg) : ∀ vs : List Nat, aK K G io H (bR env vs) (L2.wipe sg vs)
  | [] => e
  | v :: vs => (aK.wipe e vs).wipe1 v
theorem Fr.jr : ∀ (l : List (Nat × U)) (vs : List V) {env : Env} {sg : L2.St}, Fr K F io st env sg H → aq K (Wf (Gs F env sg) io) io H (l.map (·.2)) vs →
    Fr K F io st (bf env l) (jP sg ((l.map (·.1)).zip vs)) H ∧ cG io H (Ow env sg) io H (Ow (bf env l) (jP sg ((l.map (·.1)).zip vs)))
  | [], vs, _, _, f, r => by simpa [bf, jP] using ⟨f, cG.refl _ _ _⟩
  | p :: l, vs, _, _, f, r => by
    obtain ⟨v, vr, rfl, r1, r2⟩ := r.uncons
    obtain ⟨f1, e1⟩ := f.jo (i := p.1) r1
    obtain ⟨f2, e2⟩ := Fr.jr l vr f1 (r2.mono (e1.mono (F := F)))
    exact ⟨f2, e1.trans e2⟩
end
structure Wk (K : PySem.W.Frag) (G : Addr → Prop) (J : It) (io : List Addr) (H : Hp) (us : List U) : Prop where
  go : ∀ (i : Nat) G' io' st' H', Ok K G' io' st' H' → b_ G io H G' io' H' → i < us.length → J.go i H' ∧ ∀ x H'', J.yld i H' x H'' → Same H' H'' ∧ ∃ u, us[i]? = some u ∧ Rep K (Wf G' io') io' H'' u x
  stop : ∀ (i : Nat) G' io' st' H', Ok K G' io' st' H' → b_ G io H G' io' H' → us.length ≤ i → J.stop i H'
noncomputable def tI (K : PySem.W.Frag) (xs : XS) (wx : WX) (f : DL) : TI := fun sg H R => ∃ G io st env, Ok K G io st H ∧ aK K G io H env sg ∧
  aM K G io H (fun _ io' H' us => ∀ J, Wk K G J io' H' us → R J H') (XW xs wx sg) (f env st)
theorem uw {X : Cx} {tg e : Expr} {t t' : TI} (h : PI X tg e t) (f : ∀ sg H R, t' sg H R → t sg H R) : PI X tg e t' := ⟨fun pins s sg H R I q => h.run pins s sg H R I (f sg H R q)⟩
theorem b_.refl (G : Addr → Prop) (io : List Addr) (H : Hp) : b_ G io H G io H := (Ext.refl io H).mono
theorem b_.trans {G G1 G2 : Addr → Prop} {io io1 io2 : List Addr} {H H1 H2 : Hp} (a : b_ G io H G1 io1 H1) (b : b_ G1 io1 H1 G2 io2 H2) : b_ G io H G2 io2 H2 := by
  obtain ⟨m1, rfl⟩ := a.pre
  obtain ⟨m2, rfl⟩ := b.pre
  exact ⟨⟨m1 ++ m2, by rw [List.append_assoc]⟩, fun x o n h => let ⟨h1, n1⟩ := a.keep x o n h; b.keep x o n1 h1⟩
noncomputable def items : U → Option (List U)
  | .lst us => some us
  | .tup us => some us
  | .str x => some (x.cps.toList.map fun c => U.str ⟨#[c]⟩)
  | .scr ns => some (ns.map U.int)
  | _ => none
noncomputable def cH (f : DE) : DL := fun env st => (f env st).bind fun u st1 => Rs.of (items u) st1
section
variable {K : PySem.W.Frag} {G : Addr → Prop} {io : List Addr} {H : Hp}
theorem wk_list {a : Addr} {us : List U} {vs : List V} (h : LL K (Wf G io) H a vs) (r : aq K (Wf G io) io H us vs) : Wk K G (Itl K a) io H us := by
  refine ⟨fun i G' io' st' H' ok m hi => ?_, fun i G' io' st' H' ok m hi => ⟨vs, (h.mono m).sq, by rw [← r.length]; exact hi⟩⟩
  obtain ⟨v, hv, rv⟩ := r.get (List.getElem?_eq_getElem hi)
  refine ⟨⟨vs, v, (h.mono m).sq, hv⟩, fun x H'' y => ?_⟩
  obtain ⟨rfl, y⟩ := y
  have e := (y vs (h.mono m).sq).symm.trans hv
  cases e
  exact ⟨Same.refl _, _, List.getElem?_eq_getElem hi, rv.mono m⟩
theorem wk_scr {a : Addr} {ns : List Int} (h : LS K (Wf G io) H a (ns.map V.int)) : Wk K G (Itl K a) io H (ns.map U.int) := by
  have r : aq K (Wf G io) io H (ns.map U.int) (ns.map V.int) := aq.ints ns
  refine ⟨fun i G' io' st' H' ok m hi => ?_, fun i G' io' st' H' ok m hi => ⟨_, (h.mono m).sq, by rw [← r.length]; exact hi⟩⟩
  obtain ⟨v, hv, rv⟩ := r.get (List.getElem?_eq_getElem hi)
  refine ⟨⟨_, v, (h.mono m).sq, hv⟩, fun x H'' y => ?_⟩
  obtain ⟨rfl, y⟩ := y
  have e := (y _ (h.mono m).sq).symm.trans hv
  cases e
  exact ⟨Same.refl _, _, List.getElem?_eq_getElem hi, rv.mono m⟩
theorem wk_tup {a : Addr} {us : List U} {vs : List V} (h : LT K (Wf G io) H a vs) (r : aq K (Wf G io) io H us vs) : Wk K G (Itt K a) io H us := by
  refine ⟨fun i G' io' st' H' ok m hi => ?_, fun i G' io' st' H' ok m hi => ⟨vs, (h.mono m).sq, by rw [← r.length]; exact hi⟩⟩
  obtain ⟨v, hv, rv⟩ := r.get (List.getElem?_eq_getElem hi)
  refine ⟨⟨vs, v, (h.mono m).sq, hv⟩, fun x H'' y => ?_⟩
  obtain ⟨rfl, y⟩ := y
  have e := (y vs (h.mono m).sq).symm.trans hv
  cases e
  exact ⟨Same.refl _, _, List.getElem?_eq_getElem hi, rv.mono m⟩
theorem wk_str (x : Str) : Wk K G (Its x) io H (x.cps.toList.map fun c => U.str ⟨#[c]⟩) := by
  refine ⟨fun i G' io' st' H' ok m hi => ?_, fun i G' io' st' H' ok m hi => ?_⟩
  · have hi' : i < x.cps.size := by simpa using hi
    refine ⟨hi', fun v H'' y => ?_⟩
    obtain ⟨rfl, c, hc, rfl⟩ := y
    refine ⟨Same.refl _, .str ⟨#[c]⟩, ?_, by unfold Rep; rfl⟩
    rw [List.getElem?_map, Array.getElem?_toList, hc]; rfl
  · show x.cps.size ≤ i
    simpa using hi
theorem tE (lo : Int) (n : Nat) : Wk K G (Itr lo n) io H ((List.range n).map fun i => U.int (lo + (i : Nat))) := by
  refine ⟨fun i G' io' st' H' ok m hi => ?_, fun i G' io' st' H' ok m hi => ?_⟩
  · have hi' : i < n := by simpa using hi
    refine ⟨hi', fun v H'' y => ?_⟩
    obtain ⟨rfl, rfl⟩ := y
    refine ⟨Same.refl _, .int (lo + i), ?_, by unfold Rep; rfl⟩
    simp [hi']
  · show n ≤ i
    simpa using hi
end
section
variable {X : Cx} {xs : XS} {wx : WX} {pos : Pos} {tg : Expr}
noncomputable def ItR (X : Cx) (tg : Expr) (r : V → Hp → (It → Hp → Prop) → Prop) : Prop := ∀ (pins : List (Addr × Obj)) (s : Shared) (sg : L2.St) (H : Hp) (x : V) (v : Value) (R : It → Hp → Prop), Inv X pins sg H s → RelV x v → r x H R →
  wpAny (model X.prog X.w) X.A (pyIter v) (PIE X pins sg tg R) X.xe s
theorem qu : ItR X tg (fun x H R => ∃ a, x = .ref a ∧ (∃ xs, SqL X.K H a xs) ∧ R (Itl X.K a) H) := by
  intro pins s1 sg H1 x v R I1 r1 q1
  obtain ⟨a, e, ⟨xs, hq⟩, q⟩ := q1
  subst e
  cases r1
  obtain ⟨its, rv, p, hz⟩ := I1.list hq
  refine wpAny_pyIter_list p.isList ?_
  refine ⟨s1.heap.objs.size, [s1.heap.objs.size], _, _, H1, rfl, I1.kept (t' := s1.toks) fun b o e => Heap.get?_push_of_some _ e, turn_list a _, ⟨_, Heap.get?_push_size _ rfl, rfl, rfl⟩, fun b hb => ?_, q⟩
  have e : b = s1.heap.objs.size := by simpa using hb
  subst e
  exact I1.fpOk (Nat.le_refl _) (I1.hok.fresh (Nat.le_refl _))
theorem it_tup : ItR X tg (fun x H R => ∃ a, x = .ref a ∧ (∃ xs, SqT X.K H a xs) ∧ R (Itt X.K a) H) := by
  intro pins s1 sg H1 x v R I1 r1 q1
  obtain ⟨a, e, ⟨xs, hq⟩, q⟩ := q1
  subst e
  cases r1
  obtain ⟨its, rv, p, hz⟩ := I1.tuple hq
  refine wpAny_pyIter_tuple (show s1.heap.IsTuple a its.toArray from p) ?_
  refine ⟨s1.heap.objs.size, [s1.heap.objs.size], _, _, H1, rfl, I1.kept (t' := s1.toks) fun b o e => Heap.get?_push_of_some _ e, turn_tuple a _, ⟨_, Heap.get?_push_size _ rfl, rfl, rfl⟩, fun b hb => ?_, q⟩
  have e : b = s1.heap.objs.size := by simpa using hb
  subst e
  exact I1.fpOk (Nat.le_refl _) (I1.hok.fresh (Nat.le_refl _))
theorem it_str : ItR X tg (fun v H R => ∃ x, v = .str x ∧ R (Its x) H) := by
  intro pins s1 sg H1 y v R I1 r1 q1
  obtain ⟨x, ex, q⟩ := q1
  subst ex
  obtain ⟨t, rfl⟩ := r1
  cases ha : x.cps.all (· < 128)
  · exact wpAny_pyIter_wide ha (pi_one (tk := s1.toks) I1 _ (turn_str _ x t "str_iterator" (.inr rfl)) ⟨_, Heap.get?_push_size _ rfl, rfl, rfl⟩ q)
  · exact wpAny_pyIter_ascii ha (pi_one (tk := s1.toks) I1 _ (turn_str _ x t "str_ascii_iterator" (.inl rfl)) ⟨_, Heap.get?_push_size _ rfl, rfl, rfl⟩ q)
theorem u_ : ItR X tg (fun x H R => ∃ G io st u us, Ok X.K G io st H ∧ Rep X.K (Wf G io) io H u x ∧ items u = some us ∧ ∀ J, Wk X.K G J io H us → R J H) := by
  intro pins s sg H x v R I r q
  obtain ⟨G, io, st, u, us, ok, rp, e, q⟩ := q
  cases u with
  | lst ws =>
    cases e
    unfold Rep at rp
    obtain ⟨a, vs, rfl, l, rs⟩ := rp
    exact qu pins s sg H _ v R I r ⟨a, rfl, ⟨vs, l.sq⟩, q _ (wk_list l rs)⟩
  | tup ws =>
    cases e
    unfold Rep at rp
    obtain ⟨a, vs, rfl, l, rs⟩ := rp
    exact it_tup pins s sg H _ v R I r ⟨a, rfl, ⟨vs, l.sq⟩, q _ (wk_tup l rs)⟩
  | str z =>
    cases e
    unfold Rep at rp
    subst rp
    exact it_str pins s sg H _ v R I r ⟨z, rfl, q _ (wk_str z)⟩
  | scr ns =>
    cases e
    unfold Rep at rp
    obtain ⟨a, rfl, l⟩ := rp
    exact qu pins s sg H _ v R I r ⟨a, rfl, ⟨_, l.sq⟩, q _ (wk_scr l)⟩
  | _ => cases e
theorem jF {e : Expr} {f : DE} (h : PE X e (tD X.K xs wx f)) : PI X tg e (tI X.K xs wx (cH f)) := by
  refine ⟨fun pins s sg H R I q => ?_⟩
  obtain ⟨G, io, st, env, ok, er, w⟩ := q
  refine thn (h.run pins s sg H (fun x H1 => ∃ G io st u us, Ok X.K G io st H1 ∧ Rep X.K (Wf G io) io H1 u x ∧ items u = some us ∧ ∀ J, Wk X.K G J io H1 us → R J H1) I ?_) fun v s1 ⟨x, H1, I1, r1, q1⟩ => u_ pins s1 sg H1 x v R I1 r1 q1
  refine ⟨G, io, st, env, ok, er, w.bind.aX fun st1 io1 H1 u ok1 e1 w1 v rv => ?_⟩
  obtain ⟨us, hu, w2⟩ := w1.pure
  exact ⟨G, io1, st1, u, us, ok1, rv, hu, fun J k => w2.here ok1 J k⟩
noncomputable def fX : List U → Option (List U)
  | [.int j] => if -(2 ^ 62) ≤ j ∧ j < 2 ^ 62 then some ((List.range j.toNat).map fun i => U.int (i : Nat)) else none
  | _ => none
noncomputable def itA (g : List U → Option (List U)) (f : DA) : DL := fun env st => (f env st).bind fun us st1 => Rs.of (g us) st1
theorem fu {a : Expr} {f : DA} {p : Pos} (hg : Gl X "range") (hm : X.mg "range" = none) (ha : PA X [a] (tDA X.K xs wx f)) (hs : starEach [a] X.env = [(false, eval a X.env)] := by rfl) : PI X tg (.Call (.Name "range" p) [a] [] pos) (tI X.K xs wx (itA fX f)) :=
  uw (pi_range1 hg hm ha hs) fun sg H R q => by
    obtain ⟨G, io, st, env, ok, er, w⟩ := q
    refine ⟨G, io, st, env, ok, er, w.bind.aX fun st1 io1 H1 us ok1 e1 w1 vs rvs => ?_⟩
    obtain ⟨ws, hu, w2⟩ := w1.pure
    unfold fX at hu
    split at hu
    · rename_i j
      split at hu
      · rename_i hj
        cases hu
        have e : vs = [V.int j] := aq.ofInts (ns := [j]) rvs
        subst e
        refine ⟨j, rfl, hj.1, hj.2, w2.here ok1 _ ?_⟩
        have z := tE (K := X.K) (G := G) (io := io1) (H := H1) 0 j.toNat
        simpa using z
      · cases hu
    · cases hu
noncomputable def forL (t : Tg) (b : DS) : List U → Env → Store → Out
  | [], env, st => .nx env st
  | u :: us, env, st => match t u with
    | none => .bad
    | some l => match b (bf env l) st with
      | .nx env2 st2 => forL t b us env2 st2
      | .ct env2 st2 => forL t b us env2 st2
      | .bk env2 st2 => .nx env2 st2
      | .rt u st2 => .rt u st2
      | .ex c us env2 st2 => .ex c us env2 st2
      | .bad => .bad
noncomputable def oG (f : DL) (t : Tg) (b : DS) : DS := fun env st => (f env st).out env fun us st1 => forL t b us env st1
theorem tZ {iter : Expr} {body : List Stmt} {f : DL} {t : Tg} {b : DS} (hp : PassesOwn (model X.prog X.w) X.A X.env X.xe) (hc : X.calm = true) (hi : PI X tg iter (tI X.K xs wx f)) (hg : PG X tg (gD X.K t)) (hb : PSs X body (tDS X.K xs wx b))
    (hs : ∀ x, foldedSetIterable iter X.env x = Pure.pure x := by intro _; rfl) : PS X (.For tg iter body [] pos) (tDS X.K xs wx (oG f t b)) := gG (ps_for hp hc hi hg hb hs) fun D sg H h => by
  obtain ⟨F, io, st, env, fr, w⟩ := h
  refine ⟨Gs F env sg, io, st, env, fr.ok, fr.er, (aV.expr fr w).aX fun st1 io1 H1 us ok1 ex1 z J wk => ?_⟩
  refine ⟨fun i m sg' H' => ∃ io' st' env', Fr X.K F io' st' env' sg' H' ∧ cG io1 H1 (Ow env sg) io' H' (Ow env' sg') ∧ aV X.K F io' H' (Ow env' sg') D xs wx (forL t b (us.drop i) env' st') ∧ i + m = us.length,
    ⟨us.length, io1, st1, env, z.1, cG.refl _ _ _, z.2, by omega⟩, fun i m sg' H' hW => ?_⟩
  obtain ⟨io', st', env', f', e', w', hm⟩ := hW
  have mn := e'.mono (F := F)
  by_cases hi : i < us.length
  · obtain ⟨hgo, hy⟩ := wk.go i _ io' st' H' f'.ok mn hi
    refine .inr ⟨hgo, fun sg2 H2 => ∃ io' st' env', Fr X.K F io' st' env' sg2 H2 ∧ cG io1 H1 (Ow env sg) io' H2 (Ow env' sg2) ∧ aV X.K F io' H2 (Ow env' sg2) D xs wx (forL t b (us.drop (i + 1)) env' st') ∧ (i + 1) + (m - 1) = us.length,
      fun sg2 H2 hN => ⟨m - 1, by omega, hN⟩, fun x H'' y => ?_⟩
    obtain ⟨sm, u, hu, ru⟩ := hy x H'' y
    have f2 : Fr X.K F io' st' env' sg' H'' := f'.ext (f'.ok.same sm) (Ext.same sm)
    have e2 : cG io1 H1 (Ow env sg) io' H'' (Ow env' sg') := e'.trans ((Ext.same sm).o _)
    have w2 := aV.later w' ((Ext.same sm).o (Ow env' sg'))
    rw [List.drop_eq_getElem_cons hi] at w2
    have hu' : us[i] = u := Option.some.inj ((List.getElem?_eq_getElem hi).symm.trans hu)
    rw [hu'] at w2
    unfold forL at w2
    cases ht : t u with
    | none => rw [ht] at w2; exact w2.elim
    | some l =>
      rw [ht] at w2
      simp only at w2
      refine ⟨Gs F env' sg', io', u, l, ru, ht, fun vs rvs => ?_⟩
      obtain ⟨f3, e3⟩ := f2.jr l vs rvs
      refine ⟨F, io', st', _, f3, ?_⟩
      cases hbo : b (bf env' l) st' with
      | nx env2 st2 =>
        rw [hbo] at w2
        exact fun io4 sg4 H4 f4 e4 => ⟨io4, st2, env2, f4, (e2.trans e3).trans e4, aV.later w2 (e3.trans e4), by omega⟩
      | ct env2 st2 =>
        rw [hbo] at w2
        exact fun io4 sg4 H4 f4 e4 => ⟨io4, st2, env2, f4, (e2.trans e3).trans e4, aV.later w2 (e3.trans e4), by omega⟩
      | bk env2 st2 =>
        rw [hbo] at w2
        exact fun io4 sg4 H4 f4 e4 => w2 io4 sg4 H4 f4 (e3.trans e4)
      | rt u2 st2 =>
        rw [hbo] at w2
        exact fun io4 H4 v4 f4 e4 => w2 io4 H4 v4 f4 (e3.trans e4)
      | ex c us2 env2 st2 =>
        rw [hbo] at w2
        exact fun io4 sg4 H4 f4 e4 => w2 io4 sg4 H4 f4 (e3.trans e4)
      | bad => rw [hbo] at w2; exact w2.elim
  · refine .inl ⟨wk.stop i _ io' st' H' f'.ok mn (Nat.le_of_not_lt hi), ?_⟩
    rw [List.drop_eq_nil_of_le (Nat.le_of_not_lt hi)] at w'
    exact w' io' sg' H' f' (cG.refl _ _ _)
end
noncomputable def dD {A : Type} : Rs A → Rs A
  | .ex _ _ _ => .bad
  | r => r
theorem iH {A B : Type} (r : Rs A) (k : A → Store → Rs B) : dD (r.bind k) = (dD r).bind fun a st => dD (k a st) := by cases r <;> rfl
noncomputable def hid (H : Hp) (D : Addr) : Hp := fun b => if b = D then none else H b
theorem dX {H : Hp} {D : Addr} : hid H D D = none := by unfold hid; rw [if_pos rfl]
theorem cY {H : Hp} {D b : Addr} (h : b ≠ D) : hid H D b = H b := by unfold hid; rw [if_neg h]
theorem bY {H : Hp} {D b : Addr} {o : HO} (h : hid H D b = some o) : b ≠ D ∧ H b = some o := by
  by_cases e : b = D
  · subst e; rw [dX] at h; cases h
  · rw [cY e] at h; exact ⟨e, h⟩
theorem upd_hid {H : Hp} {D : Addr} {o : HO} (h : H D = some o) : upd (hid H D) D o = H := by
  funext b
  by_cases e : b = D
  · subst e; rw [upd_same, h]
  · rw [upd_ne e, cY e]
theorem gW {H : Hp} {D : Addr} {o : HO} : hid (upd H D o) D = hid H D := by
  funext b
  by_cases e : b = D
  · subst e; rw [dX, dX]
  · rw [cY e, cY e, upd_ne e]
theorem vg {H : Hp} {D : Addr} (h : H D = none) : hid H D = H := by
  funext b
  by_cases e : b = D
  · subst e; rw [dX, h]
  · rw [cY e]
section
variable {K : PySem.W.Frag} {G : Addr → Prop} {io io' : List Addr} {H H' : Hp} {D : Addr} {st : Store} {env : Env} {sg : L2.St}
noncomputable def Gd (G : Addr → Prop) (D : Addr) : Addr → Prop := fun a => G a ∨ a = D
theorem d9 : b_ G io (hid H D) (Gd G D) io H := ⟨⟨[], by simp⟩, fun a o n h => by
  obtain ⟨ne, e⟩ := bY h
  exact ⟨e, fun z => z.elim (fun z => z.elim (fun z => n (.inl z)) ne) fun z => n (.inr z)⟩⟩
theorem jB : b_ (Gd G D) io H G io (hid H D) := ⟨⟨[], by simp⟩, fun a o n h => by
  have ne : a ≠ D := fun e => n (.inl (.inr e))
  exact ⟨by rw [cY ne]; exact h, fun z => n (z.imp .inl id)⟩⟩
theorem jg.mono {G' : Addr → Prop} {a : Addr} {ob : Ob} (m : b_ G io H G' io' H') (keep : ∀ o, H a = some o → H' a = some o) (kx : ∀ dd ws, H dd = some (.xd ws) → H' dd = some (.xd ws)) (h : jg K (Wf G io) io H a ob) : jg K (Wf G' io') io' H' a ob := by
  cases ob with
  | lst us => obtain ⟨vs, q1, q2⟩ := h; exact ⟨vs, keep _ q1, q2.mono m⟩
  | dct ks us => obtain ⟨kvs, q1, q2, q3⟩ := h; exact ⟨kvs, keep _ q1, q2, q3.mono m⟩
  | dcT ks us => obtain ⟨kvs, q1, q2, q3⟩ := h; exact ⟨kvs, keep _ q1, q2, q3.mono m⟩
  | dcN w kvs => obtain ⟨xs, q1, q2, q3⟩ := h; exact ⟨xs, keep _ q1, q2, q3.mono m⟩
  | obj c fs => obtain ⟨C, dx, vs, q1, q2, q3⟩ := h; exact ⟨C, dx, vs, q1, keep _ q2, q3.mono m⟩
  | ins c fs => obtain ⟨C, d, q1, q2, q3⟩ := h; exact ⟨C, d, q1, keep _ q2, q3.keep kx⟩
  | gone => trivial
theorem Ok.enter {o : HO} (h : Ok K G io st (hid H D)) (hD : H D = some o) (hx : NX o) : Ok K (Gd G D) io st H := by
  refine ⟨h.nd, fun a ha z => ?_, fun a ha => ?_, h.len, fun n ob a e1 e2 => ?_⟩
  · rcases z with z | z
    · exact h.dj a ha z
    · subst z
      obtain ⟨o, e, _⟩ := h.trk a (.inr ha)
      exact (bY e).1 rfl
  · rcases ha with (z | z) | z
    · obtain ⟨o, e, x⟩ := h.trk a (.inl z); exact ⟨o, (bY e).2, x⟩
    · subst z; exact ⟨o, hD, hx⟩
    · obtain ⟨o, e, x⟩ := h.trk a (.inr z); exact ⟨o, (bY e).2, x⟩
  · exact (h.obs n ob a e1 e2).mono d9 (fun o q => (bY q).2) fun _ _ q => (bY q).2
theorem Ok.leave (h : Ok K (Gd G D) io st H) (hG : ¬ G D) : Ok K G io st (hid H D) := by
  have nD : D ∉ io := fun z => h.dj D z (.inr rfl)
  refine ⟨h.nd, fun a ha z => h.dj a ha (.inl z), fun a ha => ?_, h.len, fun n ob a e1 e2 => ?_⟩
  · obtain ⟨o, e, x⟩ := h.trk a (ha.imp .inl id)
    have ne : a ≠ D := fun z => by
      subst z
      exact ha.elim hG nD
    exact ⟨o, by rw [cY ne]; exact e, x⟩
  · have ne : a ≠ D := fun z => by
      subst z
      exact nD (List.mem_of_getElem? e2)
    exact (h.obs n ob a e1 e2).mono jB (fun o q => by rw [cY ne]; exact q) fun dd ws q => by
      have nd : dd ≠ D := fun z => by
        subst z
        obtain ⟨o, e, x⟩ := h.trk dd (.inl (.inr rfl))
        rw [q] at e; cases e; exact x ws rfl
      rw [cY nd]; exact q
theorem aK.enter (h : aK K G io (hid H D) env sg) : aK K (Gd G D) io H env sg := ⟨h.len, fun i s o e1 e2 => by
  have q := h.sl i s o e1 e2
  cases s with
  | un => trivial
  | val u => obtain ⟨v, q1, q2⟩ := q; exact ⟨v, q1, q2.mono d9⟩
  | own us => obtain ⟨a, vs, q1, q2, q3, q4⟩ := q; exact ⟨a, vs, q1, .inl q2, (bY q3).2, q4.mono d9⟩⟩
theorem Ext.leave (e : Ext io H io' H') : Ext io (hid H D) io' (hid H' D) := by
  obtain ⟨m, q, f⟩ := e.pre
  refine ⟨⟨m, q, fun a ha => ?_⟩, fun a o ha h => ?_, fun a o h => ?_⟩
  · by_cases z : a = D
    · subst z; exact dX
    · rw [cY z]; exact f a ha
  · obtain ⟨ne, h⟩ := bY h
    rw [cY ne]; exact e.keep a o ha h
  · obtain ⟨ne, h⟩ := bY h
    obtain ⟨o', h'⟩ := e.stay a o h
    exact ⟨o', by rw [cY ne]; exact h'⟩
end
theorem d7 {i : Nat} {o : Option V} : ∀ (vs : List Nat) (sg : L2.St), i ∈ vs → L2.wipe (sg.set i o) vs = L2.wipe sg vs
  | [], _, h => by simp at h
  | v :: vs, sg, h => by
    unfold L2.wipe
    by_cases hm : i ∈ vs
    · rw [d7 vs sg hm]
    · have e : v = i := by
        rcases List.mem_cons.mp h with e | e
        · exact e.symm
        · exact (hm e).elim
      subst e
      have c : ∀ (ws : List Nat) (s : L2.St), v ∉ ws → L2.wipe (s.set v o) ws = (L2.wipe s ws).set v o := by
        intro ws
        induction ws with
        | nil => intro s _; rfl
        | cons x ws ih =>
          intro s hx
          unfold L2.wipe
          rw [ih s fun z => hx (List.mem_cons_of_mem _ z), List.set_comm _ _ fun z => hx (by rw [z]; exact List.mem_cons_self)]
      rw [c vs sg hm, List.set_set]
theorem qY (sg : L2.St) (vs : List Nat) : L2.wipe (L2.wipe sg vs) vs = L2.wipe sg vs := by
  have c : ∀ (ws : List Nat), (∀ x ∈ ws, x ∈ vs) → L2.wipe (L2.wipe sg ws) vs = L2.wipe sg vs := by
    intro ws
    induction ws with
    | nil => intro _; rfl
    | cons x ws ih =>
      intro hx
      show L2.wipe ((L2.wipe sg ws).set x none) vs = _
      rw [d7 vs _ (hx x List.mem_cons_self), ih fun y hy => hx y (List.mem_cons_of_mem _ hy)]
  exact c vs fun _ h => h
theorem jX : ∀ (l : List (Nat × V)) (vs : List Nat) (sg : L2.St), (∀ p ∈ l, p.1 ∈ vs) → L2.wipe (jP sg l) vs = L2.wipe sg vs
  | [], _, _, _ => rfl
  | p :: l, vs, sg, h => by
    show L2.wipe (jP (sg.set p.1 (some p.2)) l) vs = _
    rw [jX l vs _ fun q hq => h q (List.mem_cons_of_mem _ hq), d7 vs sg (h p List.mem_cons_self)]
noncomputable def bu (t : Tg) (c : DT) (e : DE) : List U → Env → Store → Rs (List U)
  | [], _, st => .ok [] st
  | u :: us, env, st => match t u with
    | none => .bad
    | some l => (c (bf env l) st).bind fun b st1 => if b = true then (e (bf env l) st1).bind fun v st2 => (bu t c e us env st2).bind fun r st3 => .ok (v :: r) st3 else bu t c e us env st1
noncomputable def bG (f : DL) (vs : List Nat) (t : Tg) (c : DT) (e : DE) : DL := fun env st => (f env st).bind fun us st1 => if us.length ≤ sizeLine then dD (bu t c e us (bR env vs) st1) else .bad
noncomputable def dG : DT := fun _ st => .ok true st
noncomputable abbrev wF : WX := fun _ _ _ _ => False
section
variable {X : Cx} {xs : XS} {wx : WX} {pos : Pos} {tg : Expr}
theorem gq : PTs X [] (tDT X.K xs wx dG) := ⟨fun pins s sg H Q I h => pts_nil.run pins s sg H Q I (by
  obtain ⟨G, io, st, env, ok, er, w⟩ := h
  exact w.here ok)⟩
theorem kY {c : Expr} {t : DT} (h : PT X c (tDT X.K xs wx t)) : PTs X [c] (tDT X.K xs wx t) := pts_one h
theorem km {f : DL} {vs : List Nat} {t : Tg} {c : DT} {e : DE} {sg : L2.St} {H : Hp} {Q : VK} (hvs : ∀ u l, t u = some l → ∀ p ∈ l, p.1 ∈ vs) (h : tDL X.K xs wx (bG f vs t c e) sg H Q) :
    tLc (tI X.K xs wx f) (gD X.K t) (tDT X.K xs wF c) (tD X.K xs wF e) vs sg H Q := by
  obtain ⟨G, io, st, env, ok, er, w⟩ := h
  refine ⟨G, io, st, env, ok, er, w.bind.aX fun st1 io1 H1 us ok1 e1 w1 J wk D hD => ?_⟩
  split at w1
  case isFalse => exact w1.elim
  rename_i hz
  have nG : ¬ Wf G io1 D := ok1.fresh hD
  have er1 : aK X.K G io1 H1 (bR env vs) (L2.wipe sg vs) := (er.ext ok.dj e1).wipe vs
  have hH : hid (upd H1 D (.lst [])) D = H1 := by rw [gW, vg hD]
  refine ⟨fun i m H' => ∃ io' st' acc accv, Ok X.K G io' st' (hid H' D) ∧ Ext io1 H1 io' (hid H' D) ∧ H' D = some (.lst accv) ∧ aq X.K (Wf G io') io' (hid H' D) acc accv ∧ acc.length ≤ i ∧ i + m = us.length ∧
      aM X.K G io' (hid H' D) (fun _ io'' H'' ws => ∀ vs a, aq X.K (Wf G io'') io'' H'' (acc ++ ws) vs → H'' a = none → Q (.ref a) (upd H'' a (.lst vs))) (XW xs wx sg) (dD (bu t c e (us.drop i) (bR env vs) st')),
    ⟨us.length, io1, st1, [], [], by rw [hH]; exact ok1, by rw [hH]; exact Ext.refl _ _, upd_same, .nil, by simp, by omega, ?_⟩, fun i m H' hW => ?_⟩
  · rw [hH]
    exact w1.aX fun st' io' H' ws _ _ q => q
  obtain ⟨io', st', acc, accv, ok', ex', hD', ra, hai, hm, w'⟩ := hW
  have nio : D ∉ io' := fun z => by
    obtain ⟨o, q, _⟩ := ok'.trk D (.inr z)
    exact (bY q).1 rfl
  have okE : Ok X.K (Gd G D) io' st' H' := ok'.enter hD' oW
  have mE : b_ G io1 H1 (Gd G D) io' H' := ex'.mono.trans d9
  have erE : aK X.K (Gd G D) io' H' (bR env vs) (L2.wipe sg vs) := (er1.ext ok1.dj ex').enter
  by_cases hi : i < us.length
  · obtain ⟨hgo, hy⟩ := wk.go i _ io' st' H' okE mE hi
    refine .inr ⟨hgo, _, fun H2 hN => ⟨m - 1, by omega, hN⟩, fun x H'' y => ?_⟩
    obtain ⟨sm, u, hu, ru⟩ := hy x H'' y
    have ok2 := okE.same sm
    have ex2 : Ext io' H' io' H'' := Ext.same sm
    have er2 : aK X.K (Gd G D) io' H'' (bR env vs) (L2.wipe sg vs) := erE.ext okE.dj ex2
    rw [List.drop_eq_getElem_cons hi] at w'
    have hu' : us[i] = u := Option.some.inj ((List.getElem?_eq_getElem hi).symm.trans hu)
    rw [hu'] at w'
    unfold bu at w'
    cases ht : t u with
    | none => rw [ht] at w'; exact w'.elim
    | some l =>
      rw [ht] at w'
      simp only at w'
      refine ⟨Gd G D, io', u, l, ru, ht, fun lvs rvs => ⟨?_, ?_⟩⟩
      · rw [jX _ _ _ fun p hp => ?_, qY]
        have hp1 : p.1 ∈ l.map (·.1) := (List.of_mem_zip hp).1
        obtain ⟨q, hq, e⟩ := List.mem_map.mp hp1
        rw [← e]
        exact hvs u l ht q hq
      have er3 := aK.jr l lvs er2 rvs
      have w2 := w'.later (Ext.leave (D := D) ex2)
      rw [iH] at w2
      -- the test
      have lift : ∀ {A : Type} {R : Store → List Addr → Hp → A → Prop} {XR} {r : Rs A} {io' : List Addr} {H' : Hp}, aM X.K G io' (hid H' D) R XR (dD r) → aM X.K (Gd G D) io' H' (fun st2 io2 H2 a => Ok X.K G io2 st2 (hid H2 D) ∧ Ext io' (hid H' D) io2 (hid H2 D) ∧ R st2 io2 (hid H2 D) a) (XW xs wF (jP (L2.wipe sg vs) ((l.map (·.1)).zip lvs))) r := by
        intro A R XR r io' H' h
        cases r with
        | ok a st2 => exact fun io2 H2 o2 e2 => ⟨o2.leave fun z => nG (.inl z), e2.leave, h io2 _ (o2.leave fun z => nG (.inl z)) e2.leave⟩
        | ex _ _ _ => exact h.elim
        | bad => exact h
      have d2 : H'' D = some (.lst accv) := sm _ _ hD'
      refine ⟨Gd G D, io', st', _, ok2, er3, (lift w2.bind).aX fun st3 io3 H3 b ok3 e3 q => ?_⟩
      have d3 : H3 D = some (.lst accv) := e3.keep D _ nio d2
      have nio3 : D ∉ io3 := fun z => ok3.dj D z (.inr rfl)
      have exA : Ext io1 H1 io3 (hid H3 D) := (ex'.trans (Ext.leave (D := D) ex2)).trans q.2.1
      obtain ⟨q1, q2, q3⟩ := q
      cases b with
      | false => exact ⟨io3, st3, acc, accv, q1, exA, d3, (ra.ext (Ext.leave (D := D) ex2)).ext q2, by omega, by omega, q3⟩
      | true =>
        simp only [if_true] at q3
        rw [iH] at q3
        refine ⟨Gd G D, io3, st3, _, ok3, er3.ext ok2.dj e3, (lift q3.bind).aX fun st4 io4 H4 v ok4 e4 q4 y ry => ?_⟩
        obtain ⟨p1, p2, p3⟩ := q4
        have d4 : H4 D = some (.lst accv) := e4.keep D _ nio3 d3
        have rA := ((ra.ext (Ext.leave (D := D) ex2)).ext q2).ext p2
        refine ⟨accv, d4, ?_, io4, st4, acc ++ [v], accv ++ [y], ?_, ?_, upd_same, ?_, by simp; omega, by omega, ?_⟩
        · rw [← ra.length]; omega
        · rw [gW]; exact p1
        · rw [gW]; exact exA.trans p2
        · rw [gW]; exact rA.append (.cons (ry.mono jB) .nil)
        · rw [gW]
          rw [iH] at p3
          refine p3.bind.aX fun st5 io5 H5 ws ok5 e5 q5 => ?_
          have q6 := aM.here (a := v :: ws) q5 ok5
          intro vs' a' r' n'
          exact q6 vs' a' (by rw [List.append_assoc] at r'; exact r') n'
  · refine .inl ⟨wk.stop i _ io' st' H' okE mE (Nat.le_of_not_lt hi), ?_⟩
    rw [List.drop_eq_nil_of_le (Nat.le_of_not_lt hi)] at w'
    have q := aM.here (a := ([] : List U)) w' ok' accv D (by rw [List.append_nil]; exact ra) dX
    rw [upd_hid hD'] at q
    exact q
theorem fj {elt iter : Expr} {ifs : List Expr} {scope : Scope} {own : List (Str × Nat)} {f : DL} {t : Tg} {c : DT} {e : DE} (hc : X.calm = true) (hN : X.N.Nodup) (hi : PI X tg iter (tI X.K xs wx f)) (ok : BlkOk X.N X.env.scope scope own)
    (hvs : ∀ u l, t u = some l → ∀ p ∈ l, p.1 ∈ own.map (·.2))
    (hg : ∀ (s : Shared) (H : Hp) (C : Addr) (cl : List (Str × Addr)) (fp : List Addr), PG (X.blk s H scope (compEnvC scope cl C X.env) fp) tg (gD X.K t)) (ht : ∀ (s : Shared) (H : Hp) (C : Addr) (cl : List (Str × Addr)) (fp : List Addr), PTs (X.blk s H scope (compEnvC scope cl C X.env) fp) ifs (tDT X.K xs wF c))
    (he : ∀ (s : Shared) (H : Hp) (C : Addr) (cl : List (Str × Addr)) (fp : List Addr), PE (X.blk s H scope (compEnvC scope cl C X.env) fp) elt (tD X.K xs wF e)) (hs : ∀ x, foldedSetIterable iter X.env x = Pure.pure x := by intro _; rfl) :
    PE X (.ListComp elt [⟨tg, iter, ifs, 0⟩] scope pos) (tDL X.K xs wx (bG f (own.map (·.2)) t c e)) := aW (pe_lc hc hN hi ok hg ht he hs) fun sg H Q h => km hvs h
theorem jt {i : Nat} {y : Str} {py spos : Pos} {elt iter : Expr} {ifs : List Expr} {scope : Scope} {own : List (Str × Nat)} {f : DL} {t : Tg} {c : DT} {e : DE} (hc : X.calm = true) (hN : X.N.Nodup) (hy : X.N[i]? = some y) (hyl : X.env.scope.names.lookup y = some .local)
    (hsw : swapsWith (.ListComp elt [⟨tg, iter, ifs, 0⟩] scope pos) (some (.Name y py)) spos.line X.env = Pure.pure true) (hi : PI X tg iter (tI X.K xs wx f)) (ok : BlkOk X.N X.env.scope scope own)
    (hvs : ∀ u l, t u = some l → ∀ p ∈ l, p.1 ∈ own.map (·.2))
    (hg : ∀ (s : Shared) (H : Hp) (C : Addr) (cl : List (Str × Addr)) (fp : List Addr), PG (X.blk s H scope (compEnvC scope cl C X.env) fp) tg (gD X.K t)) (ht : ∀ (s : Shared) (H : Hp) (C : Addr) (cl : List (Str × Addr)) (fp : List Addr), PTs (X.blk s H scope (compEnvC scope cl C X.env) fp) ifs (tDT X.K xs wF c))
    (he : ∀ (s : Shared) (H : Hp) (C : Addr) (cl : List (Str × Addr)) (fp : List Addr), PE (X.blk s H scope (compEnvC scope cl C X.env) fp) elt (tD X.K xs wF e)) (hs : ∀ x, foldedSetIterable iter X.env x = Pure.pure x := by intro _; rfl) :
    PS X (.Assign [.Name y py] (.ListComp elt [⟨tg, iter, ifs, 0⟩] scope pos) spos) (tDS X.K xs wx (bh i (bO (bG f (own.map (·.2)) t c e)))) := gG (ps_setLc hc hN hy hyl hsw hi ok hg ht he hs) fun D sg H h => by
  obtain ⟨F, io, st, env, fr, w⟩ := h
  refine km hvs ⟨Gs F env sg, io, st, env, fr.ok, fr.er, ?_⟩
  refine (aV.expr fr w).bind.aX fun st1 io1 H1 us ok1 e1 q vs a rvs na => ?_
  have q1 := aM.nq (a := U.lst us) q ok1 (aO (o := .lst vs) na)
  have z := q1.1.jo (i := i) (ok1.bO na rvs)
  exact q1.2 io1 _ _ z.1 z.2
end
noncomputable def fin : Out → Rs U
  | .rt u st => .ok u st
  | .nx _ st => .ok .non st
  | .ex c us _ st => .ex c us st
  | _ => .bad
noncomputable def env0 (m : Nat) (us : List U) : Env := us.map Sl.val ++ List.replicate (m - us.length) .un
noncomputable def runB (m n : Nat) (body : DS) : List U → Store → Rs U := fun us st => if us.length = n then fin (body (env0 m us) st) else .bad
theorem t_ {m n : Nat} {body : DS} (us : List U) (st : Store) (h : us.length ≠ n) : runB m n body us st = .bad := by unfold runB; rw [if_neg h]
theorem qJ {m : Nat} {us : List U} {i : Nat} {ws : List U} : (env0 m us)[i]? ≠ some (.own ws) := fun h => by
  unfold env0 at h
  rcases List.mem_append.mp (List.mem_of_getElem? h) with h | h
  · obtain ⟨_, _, e⟩ := List.mem_map.mp h; cases e
  · have := List.eq_of_mem_replicate h; cases this
theorem rD {K : PySem.W.Frag} {G : Addr → Prop} {io : List Addr} {H : Hp} {N : List Str} {us : List U} {vs : List V} (r : aq K (Wf G io) io H us vs) (m : Nat) : aK K G io H (env0 m us) (vs.map some ++ List.replicate (m - vs.length) none) := by
  have hl := r.length
  refine ⟨by unfold env0; simp [hl], fun i s o h1 h2 => ?_⟩
  unfold env0 at h1
  by_cases hi : i < us.length
  · rw [List.getElem?_append_left (by simpa using hi)] at h1
    rw [List.getElem?_append_left (by simpa [← hl] using hi)] at h2
    rw [List.getElem?_map, List.getElem?_eq_getElem hi] at h1
    obtain ⟨v, hv, rv⟩ := r.get (List.getElem?_eq_getElem hi)
    rw [List.getElem?_map, hv] at h2
    cases h1; cases h2
    exact ⟨v, rfl, rv⟩
  · rw [List.getElem?_append_right (by simpa using Nat.le_of_not_lt hi)] at h1
    have e := List.eq_of_mem_replicate (List.mem_of_getElem? h1)
    subst e
    trivial
section
variable {P : Program} {w : World} {K : PySem.W.Frag} {mg : Str → Option Value} {base : Heap} {xs : XS}
theorem o8 {x qual : Str} {s : Stmt} {f : Addr} {fd : FuncData} {N ps : List Str} {k : Nat} {body : DS} (F : Fun K x qual s f fd) (S : FnScope N ps (defScope s))
    (hb : ∀ (cdv : Value) (A : Around) (outer : List PySem.Env) (sh : Shared) (H : Hp) (E : XK), Room k (A.deeper (PyProof.Rows.envOfC qual (defScope s) sh.heap.objs.size f cdv)) →
      PSs (cxOf (L2.CX P w) P w K mg base N qual (defScope s) f cdv A outer sh H E) (defBody s) (tDS K xs (fun cls d _ H => E cls d H) body)) :
    FnOk P w K mg base (L2.CX P w) (k + 1) f fd ps (spD K xs ps.length (runB N.length ps.length body)) := by
  refine F.okX S (fun vs H Q E h => h.1) (fun cdv A outer sh H vs Q E hr h => ⟨_, hb cdv A outer sh H E hr, ?_⟩)
  obtain ⟨hl, G, io, st, us, ok, r, w⟩ := h
  have no : ∀ a, ¬ Ow (env0 N.length us) (start N vs) a := fun a ⟨i, ws, h1, _⟩ => qJ h1
  have sub : ∀ a, Gs G (env0 N.length us) (start N vs) a → G a := fun a h => h.elim id fun z => (no a z).elim
  have m : b_ G io H (Gs G (env0 N.length us) (start N vs)) io H := ⟨⟨[], by simp⟩, fun a o n h => ⟨h, fun z => n (z.imp (sub a) id)⟩⟩
  refine ⟨G, io, st, env0 N.length us, ⟨ok.mono sub, rD (N := N) (r.mono m) N.length, fun a h => (no a h).elim, fun i j a us us' h1 _ _ _ => (qJ h1).elim⟩, ?_⟩
  unfold runB at w
  rw [if_pos (show us.length = ps.length by rw [r.length]; exact hl)] at w
  have toE : ∀ {io' H' O'}, cG io H (Ow (env0 N.length us) (start N vs)) io' H' O' → Ext io H io' H' := fun e => ⟨let ⟨m, q1, q2⟩ := e.pre; ⟨m, q1, fun a h => (q2 a h).elim id fun z => (no a z).elim⟩, fun a o h q => e.keep a o h (no a) q, e.stay⟩
  cases q : body (env0 N.length us) st with
  | nx env' st' => rw [q] at w; exact fun io' sg' H' f' e' => w io' H' (f'.ok.mono fun _ => .inl) (toE e') .non (by unfold Rep; rfl)
  | rt u st' => rw [q] at w; exact fun io' H' v o' e' rv => w io' H' o' (toE e') v rv
  | ex c us env' st' => rw [q] at w; exact fun io' sg' H' f' e' cls d hx => w io' H' (f'.ok.mono fun _ => .inl) (toE e') cls d hx
  | bk _ _ => rw [q] at w; exact w.elim
  | ct _ _ => rw [q] at w; exact w.elim
  | bad => rw [q] at w; exact w.elim
end
noncomputable def bQ : U → U → Option U
  | .int i, .int j => some (.int (i + j))
  | .str x, .str y => if x.length + y.length ≤ sizeLine then some (.str (x ++ y)) else none
  | .tup x, .tup y => if x.length + y.length ≤ sizeLine then some (.tup (x ++ y)) else none
  | .lst x, .lst y => if x.length + y.length ≤ sizeLine then some (.lst (x ++ y)) else none
  | _, _ => none
noncomputable def bJ (i : Int) : Bool := decide (-(2 ^ 64) < i ∧ i < 2 ^ 64)
noncomputable def dN : U → U → Option U
  | .int i, .int j => if bJ i || bJ j then some (.int (i * j)) else none
  | .lst x, .int k => if -(2 ^ 63) ≤ k ∧ k < 2 ^ 63 ∧ x.length * k.toNat ≤ sizeLine then some (.lst (List.replicate k.toNat x).flatten) else none
  | _, _ => none
noncomputable def mod2 : U → U → Option U
  | .int i, .int j => if 0 < j then some (.int (i % j)) else none
  | _, _ => none
noncomputable def jd : U → U → Option U
  | .int i, .int j => if 0 < j ∧ j < 1073741824 then some (.int (i / j)) else none
  | _, _ => none
noncomputable def rK : U → U → Option U
  | .int i, .int j => if 0 ≤ j ∧ j ≤ 1000000 ∧ i.natAbs < 2 ^ 64 then some (.int (i ^ j.toNat)) else none
  | _, _ => none
noncomputable def oF : U → U → Option U
  | .int i, .int j => if 0 ≤ j ∧ j ≤ 1000000 ∧ i.natAbs < 2 ^ 64 then some (.int (i * 2 ^ j.toNat)) else none
  | _, _ => none
noncomputable def neg1 : U → Option U
  | .int i => some (.int (-i))
  | _ => none
noncomputable def ltC (x y : Str) : Bool := decide (x.cps.toList < y.cps.toList)
noncomputable def lt2 : U → U → Option U
  | .int i, .int j => some (.bl (decide (i < j)))
  | .str x, .str y => some (.bl (ltC x y))
  | _, _ => none
noncomputable def le2 : U → U → Option U
  | .int i, .int j => some (.bl (decide (i ≤ j)))
  | .str x, .str y => some (.bl (!ltC y x))
  | _, _ => none
noncomputable def gt2 : U → U → Option U
  | .int i, .int j => some (.bl (decide (j < i)))
  | .str x, .str y => some (.bl (ltC y x))
  | _, _ => none
noncomputable def ge2 : U → U → Option U
  | .int i, .int j => some (.bl (decide (j ≤ i)))
  | .str x, .str y => some (.bl (!ltC x y))
  | _, _ => none
section
variable {K : PySem.W.Frag} {W : Addr → Prop} {io : List Addr} {H : Hp}
theorem Rep.int' {i : Int} {v : V} (h : Rep K W io H (.int i) v) : v = .int i := by unfold Rep at h; exact h
theorem Rep.a_ {i : Str} {v : V} (h : Rep K W io H (.str i) v) : v = .str i := by unfold Rep at h; exact h
theorem Rep.bl' {i : Bool} {v : V} (h : Rep K W io H (.bl i) v) : v = .bl i := by unfold Rep at h; exact h
theorem Rep.cU {v : V} (h : Rep K W io H .non v) : v = .non := by unfold Rep at h; exact h
theorem Rep.bH {us : List U} {v : V} (h : Rep K W io H (.tup us) v) : ∃ a vs, v = .ref a ∧ LT K W H a vs ∧ aq K W io H us vs := by unfold Rep at h; exact h
theorem Rep.bz {us : List U} {v : V} (h : Rep K W io H (.lst us) v) : ∃ a vs, v = .ref a ∧ LL K W H a vs ∧ aq K W io H us vs := by unfold Rep at h; exact h
theorem dJ (i : Int) : Rep K W io H (.int i) (.int i) := by unfold Rep; rfl
theorem rStr (i : Str) : Rep K W io H (.str i) (.str i) := by unfold Rep; rfl
theorem rBl (i : Bool) : Rep K W io H (.bl i) (.bl i) := by unfold Rep; rfl
theorem rTup {us : List U} {a : Addr} {vs : List V} (l : LT K W H a vs) (r : aq K W io H us vs) : Rep K W io H (.tup us) (.ref a) := by unfold Rep; exact ⟨a, vs, rfl, l, r⟩
end
theorem aq.rep {K : PySem.W.Frag} {W : Addr → Prop} {io : List Addr} {H : Hp} {us : List U} {vs : List V} (h : aq K W io H us vs) : ∀ k : Nat, aq K W io H (List.replicate k us).flatten (List.replicate k vs).flatten
  | 0 => .nil
  | k + 1 => by
    rw [List.replicate_succ, List.replicate_succ, List.flatten_cons, List.flatten_cons]
    exact h.append (aq.rep h k)
section
variable {X : Cx}
theorem eE : OpR X (binaryOp .Add) (P2 X.K bQ) := by
  intro pins s sg H x y v u Q I rx ry h
  obtain ⟨G, io, st, u1, u2, u3, ok, r1, r2, e, q⟩ := h
  unfold bQ at e
  split at e
  · cases e; have e1 := r1.int'; have e2 := r2.int'; subst e1; subst e2
    exact op_add pins s sg H _ _ v u Q I rx ry ⟨_, _, rfl, rfl, q _ H (Same.refl H) (dJ _)⟩
  · split at e
    · rename_i hz
      cases e; have e1 := r1.a_; have e2 := r2.a_; subst e1; subst e2
      exact op_add_str pins s sg H _ _ v u Q I rx ry ⟨_, _, rfl, rfl, hz, q _ H (Same.refl H) (rStr _)⟩
    · cases e
  · split at e
    · rename_i hz
      cases e
      obtain ⟨a, vs, rfl, l1, s1⟩ := r1.bH
      obtain ⟨b, ws, rfl, l2, s2⟩ := r2.bH
      refine op_catA pins s sg H _ _ v u Q I rx ry ⟨a, b, vs, ws, rfl, rfl, l1.sq, l2.sq, by rw [← s1.length, ← s2.length]; exact hz, fun e => ?_, fun n e => ?_, fun n1 n2 p hp => ?_⟩
      · subst e
        have e0 : _ = [] := List.eq_nil_of_length_eq_zero (by rw [s1.length]; rfl)
        subst e0
        exact q _ H (Same.refl H) (rTup l2 s2)
      · subst e
        have e0 : _ = [] := List.eq_nil_of_length_eq_zero (by rw [s2.length]; rfl)
        subst e0
        exact q _ H (Same.refl H) (by rw [List.append_nil]; exact rTup l1 s1)
      · exact q _ _ (aO hp) (ok.uO hp (s1.append s2))
    · cases e
  · split at e
    · rename_i hz
      cases e
      obtain ⟨a, vs, rfl, l1, s1⟩ := r1.bz
      obtain ⟨b, ws, rfl, l2, s2⟩ := r2.bz
      exact op_cat pins s sg H _ _ v u Q I rx ry ⟨a, b, vs, ws, rfl, rfl, l1.1, l2.1, by rw [← s1.length, ← s2.length]; exact hz, fun p hp => q _ _ (aO hp) (ok.bO hp (s1.append s2))⟩
    · cases e
  · cases e
theorem i6 : OpR X (binaryOp .Mult) (P2 X.K dN) := by
  intro pins s sg H x y v u Q I rx ry h
  obtain ⟨G, io, st, u1, u2, u3, ok, r1, r2, e, q⟩ := h
  unfold dN at e
  split at e
  · split at e
    · rename_i hs
      cases e; have e1 := r1.int'; have e2 := r2.int'; subst e1; subst e2
      refine op_mul pins s sg H _ _ v u Q I rx ry ⟨_, _, rfl, rfl, ?_, q _ H (Same.refl H) (dJ _)⟩
      rw [Bool.or_eq_true] at hs
      exact hs.imp of_decide_eq_true of_decide_eq_true
    · cases e
  · split at e
    · rename_i hz
      cases e
      obtain ⟨a, vs, rfl, l1, s1⟩ := r1.bz
      have e2 := r2.int'; subst e2
      exact op_rep pins s sg H _ _ v u Q I rx ry ⟨a, _, vs, rfl, rfl, l1.1, hz.1, hz.2.1, by rw [← s1.length]; exact hz.2.2, fun p hp => q _ _ (aO hp) (ok.bO hp (s1.rep _))⟩
    · cases e
  · cases e
theorem i7 : OpR X (binaryOp .Mod) (P2 X.K mod2) := by
  intro pins s sg H x y v u Q I rx ry h
  obtain ⟨G, io, st, u1, u2, u3, ok, r1, r2, e, q⟩ := h
  unfold mod2 at e
  split at e
  · split at e
    · rename_i hs
      cases e; have e1 := r1.int'; have e2 := r2.int'; subst e1; subst e2
      exact op_mod pins s sg H _ _ v u Q I rx ry ⟨_, _, rfl, rfl, hs, q _ H (Same.refl H) (dJ _)⟩
    · cases e
  · cases e
theorem uG : OpR X (binaryOp .FloorDiv) (P2 X.K jd) := by
  intro pins s sg H x y v u Q I rx ry h
  obtain ⟨G, io, st, u1, u2, u3, ok, r1, r2, e, q⟩ := h
  unfold jd at e
  split at e
  · split at e
    · rename_i hs
      cases e; have e1 := r1.int'; have e2 := r2.int'; subst e1; subst e2
      exact op_fdiv pins s sg H _ _ v u Q I rx ry ⟨_, _, rfl, rfl, hs, q _ H (Same.refl H) (dJ _)⟩
    · cases e
  · cases e
theorem o_pow : OpR X (binaryOp .Pow) (P2 X.K rK) := by
  intro pins s sg H x y v u Q I rx ry h
  obtain ⟨G, io, st, u1, u2, u3, ok, r1, r2, e, q⟩ := h
  unfold rK at e
  split at e
  · split at e
    · rename_i hs
      cases e; have e1 := r1.int'; have e2 := r2.int'; subst e1; subst e2
      exact op_pow pins s sg H _ _ v u Q I rx ry ⟨_, _, rfl, rfl, hs, q _ H (Same.refl H) (dJ _)⟩
    · cases e
  · cases e
theorem o_shl : OpR X (binaryOp .LShift) (P2 X.K oF) := by
  intro pins s sg H x y v u Q I rx ry h
  obtain ⟨G, io, st, u1, u2, u3, ok, r1, r2, e, q⟩ := h
  unfold oF at e
  split at e
  · split at e
    · rename_i hs
      cases e; have e1 := r1.int'; have e2 := r2.int'; subst e1; subst e2
      exact op_shl pins s sg H _ _ v u Q I rx ry ⟨_, _, rfl, rfl, hs, q _ H (Same.refl H) (dJ _)⟩
    · cases e
  · cases e
theorem o_lt : OpR X (compareOp .Lt) (P2 X.K lt2) := by
  intro pins s sg H x y v u Q I rx ry h
  obtain ⟨G, io, st, u1, u2, u3, ok, r1, r2, e, q⟩ := h
  unfold lt2 at e
  split at e
  · cases e; have e1 := r1.int'; have e2 := r2.int'; subst e1; subst e2
    exact op_lt pins s sg H _ _ v u Q I rx ry ⟨_, _, rfl, rfl, q _ H (Same.refl H) (rBl _)⟩
  · cases e; have e1 := r1.a_; have e2 := r2.a_; subst e1; subst e2
    exact op_lt_str pins s sg H _ _ v u Q I rx ry ⟨_, _, rfl, rfl, q _ H (Same.refl H) (rBl _)⟩
  · cases e
theorem o_gt : OpR X (compareOp .Gt) (P2 X.K gt2) := by
  intro pins s sg H x y v u Q I rx ry h
  obtain ⟨G, io, st, u1, u2, u3, ok, r1, r2, e, q⟩ := h
  unfold gt2 at e
  split at e
  · cases e; have e1 := r1.int'; have e2 := r2.int'; subst e1; subst e2
    exact op_gt pins s sg H _ _ v u Q I rx ry ⟨_, _, rfl, rfl, q _ H (Same.refl H) (rBl _)⟩
  · cases e; have e1 := r1.a_; have e2 := r2.a_; subst e1; subst e2
    exact op_gt_str pins s sg H _ _ v u Q I rx ry ⟨_, _, rfl, rfl, q _ H (Same.refl H) (rBl _)⟩
  · cases e
theorem o_ge : OpR X (compareOp .GtE) (P2 X.K ge2) := by
  intro pins s sg H x y v u Q I rx ry h
  obtain ⟨G, io, st, u1, u2, u3, ok, r1, r2, e, q⟩ := h
  unfold ge2 at e
  split at e
  · cases e; have e1 := r1.int'; have e2 := r2.int'; subst e1; subst e2
    exact op_ge pins s sg H _ _ v u Q I rx ry ⟨_, _, rfl, rfl, q _ H (Same.refl H) (rBl _)⟩
  · cases e; have e1 := r1.a_; have e2 := r2.a_; subst e1; subst e2
    exact op_ge_str pins s sg H _ _ v u Q I rx ry ⟨_, _, rfl, rfl, q _ H (Same.refl H) (rBl _)⟩
  · cases e
end
noncomputable def eqP : U → U → Option Bool
  | .non, .non => some true
  | .non, .bl _ => some false
  | .non, .int _ => some false
  | .non, .str _ => some false
  | .non, .tup _ => some false
  | .non, .lst _ => some false
  | .bl _, .non => some false
  | .bl a1, .bl a2 => some (a1 == a2)
  | .bl a1, .int a2 => some ((if a1 then 1 else 0) == a2)
  | .bl _, .str _ => some false
  | .bl _, .tup _ => some false
  | .bl _, .lst _ => some false
  | .int _, .non => some false
  | .int a1, .bl a2 => some (a1 == (if a2 then 1 else 0))
  | .int a1, .int a2 => some (a1 == a2)
  | .int _, .str _ => some false
  | .int _, .tup _ => some false
  | .int _, .lst _ => some false
  | .str _, .non => some false
  | .str _, .bl _ => some false
  | .str _, .int _ => some false
  | .str a1, .str a2 => some (a1 == a2)
  | .str _, .tup _ => some false
  | .str _, .lst _ => some false
  | .tup _, .non => some false
  | .tup _, .bl _ => some false
  | .tup _, .int _ => some false
  | .tup _, .str _ => some false
  | .tup _, .lst _ => some false
  | .lst _, .non => some false
  | .lst _, .bl _ => some false
  | .lst _, .int _ => some false
  | .lst _, .str _ => some false
  | .lst _, .tup _ => some false
  | _, _ => none
structure Pairs (A : Around) (s : Shared) (f : Bool → Bool) (R : Value → Value → Bool → Prop) : Prop where
  none_none : ∀ (_ : True), R .none .none (f true)
  none_bool : ∀ (a2 : Bool), R .none (.bool a2) (f false)
  none_int : ∀ (a2 : Int) (t2 : Tok), R .none (.int a2 t2) (f false)
  none_str : ∀ (a2 : Str) (t2 : Tok), R .none (.str a2 t2) (f false)
  none_tuple : ∀ (l2 : Addr) (j2 : Array Value) (h2 : s.heap.IsTuple l2 j2), R .none (.ref l2) (f false)
  none_list : ∀ (l2 : Addr) (j2 : Array Value) (h2 : s.heap.IsList l2 j2), R .none (.ref l2) (f false)
  bool_none : ∀ (a1 : Bool), R (.bool a1) .none (f false)
  bool_bool : ∀ (a1 : Bool) (a2 : Bool), R (.bool a1) (.bool a2) (f (a1 == a2))
  bool_int : ∀ (a1 : Bool) (a2 : Int) (t2 : Tok), R (.bool a1) (.int a2 t2) (f ((if a1 then 1 else 0) == a2))
  bool_str : ∀ (a1 : Bool) (a2 : Str) (t2 : Tok), R (.bool a1) (.str a2 t2) (f false)
  bool_tuple : ∀ (a1 : Bool) (l2 : Addr) (j2 : Array Value) (h2 : s.heap.IsTuple l2 j2), R (.bool a1) (.ref l2) (f false)
  bool_list : ∀ (a1 : Bool) (l2 : Addr) (j2 : Array Value) (h2 : s.heap.IsList l2 j2), R (.bool a1) (.ref l2) (f false)
  int_none : ∀ (a1 : Int) (t1 : Tok), R (.int a1 t1) .none (f false)
  int_bool : ∀ (a1 : Int) (t1 : Tok) (a2 : Bool), R (.int a1 t1) (.bool a2) (f (a1 == (if a2 then 1 else 0)))
  int_int : ∀ (a1 : Int) (t1 : Tok) (a2 : Int) (t2 : Tok), R (.int a1 t1) (.int a2 t2) (f (a1 == a2))
  int_str : ∀ (a1 : Int) (t1 : Tok) (a2 : Str) (t2 : Tok), R (.int a1 t1) (.str a2 t2) (f false)
  int_tuple : ∀ (a1 : Int) (t1 : Tok) (l2 : Addr) (j2 : Array Value) (h2 : s.heap.IsTuple l2 j2), R (.int a1 t1) (.ref l2) (f false)
  int_list : ∀ (a1 : Int) (t1 : Tok) (l2 : Addr) (j2 : Array Value) (h2 : s.heap.IsList l2 j2), R (.int a1 t1) (.ref l2) (f false)
  str_none : ∀ (a1 : Str) (t1 : Tok), R (.str a1 t1) .none (f false)
  str_bool : ∀ (a1 : Str) (t1 : Tok) (a2 : Bool), R (.str a1 t1) (.bool a2) (f false)
  str_int : ∀ (a1 : Str) (t1 : Tok) (a2 : Int) (t2 : Tok), R (.str a1 t1) (.int a2 t2) (f false)
  str_str : ∀ (a1 : Str) (t1 : Tok) (a2 : Str) (t2 : Tok), R (.str a1 t1) (.str a2 t2) (f (a1 == a2))
  str_tuple : ∀ (a1 : Str) (t1 : Tok) (l2 : Addr) (j2 : Array Value) (h2 : s.heap.IsTuple l2 j2), R (.str a1 t1) (.ref l2) (f false)
  str_list : ∀ (a1 : Str) (t1 : Tok) (l2 : Addr) (j2 : Array Value) (h2 : s.heap.IsList l2 j2), R (.str a1 t1) (.ref l2) (f false)
  tuple_none : ∀ (l1 : Addr) (j1 : Array Value) (h1 : s.heap.IsTuple l1 j1), R (.ref l1) .none (f false)
  tuple_bool : ∀ (l1 : Addr) (j1 : Array Value) (h1 : s.heap.IsTuple l1 j1) (a2 : Bool), R (.ref l1) (.bool a2) (f false)
  tuple_int : ∀ (l1 : Addr) (j1 : Array Value) (h1 : s.heap.IsTuple l1 j1) (a2 : Int) (t2 : Tok), R (.ref l1) (.int a2 t2) (f false)
  tuple_str : ∀ (l1 : Addr) (j1 : Array Value) (h1 : s.heap.IsTuple l1 j1) (a2 : Str) (t2 : Tok), R (.ref l1) (.str a2 t2) (f false)
  tuple_list : ∀ (l1 : Addr) (j1 : Array Value) (h1 : s.heap.IsTuple l1 j1) (l2 : Addr) (j2 : Array Value) (h2 : s.heap.IsList l2 j2), R (.ref l1) (.ref l2) (f false)
  list_none : ∀ (l1 : Addr) (j1 : Array Value) (h1 : s.heap.IsList l1 j1), R (.ref l1) .none (f false)
  list_bool : ∀ (l1 : Addr) (j1 : Array Value) (h1 : s.heap.IsList l1 j1) (a2 : Bool), R (.ref l1) (.bool a2) (f false)
  list_int : ∀ (l1 : Addr) (j1 : Array Value) (h1 : s.heap.IsList l1 j1) (a2 : Int) (t2 : Tok), R (.ref l1) (.int a2 t2) (f false)
  list_str : ∀ (l1 : Addr) (j1 : Array Value) (h1 : s.heap.IsList l1 j1) (a2 : Str) (t2 : Tok), R (.ref l1) (.str a2 t2) (f false)
  list_tuple : ∀ (l1 : Addr) (j1 : Array Value) (h1 : s.heap.IsList l1 j1) (l2 : Addr) (j2 : Array Value) (h2 : s.heap.IsTuple l2 j2), R (.ref l1) (.ref l2) (f false)
theorem uD {A : Around} {s : Shared} (hu : A.units < cLine) : Pairs A s id (SeqAt.EqAt A s) where
  none_none := fun _ => SeqAt.EqAt.same _
  none_bool := fun a2 => SeqAt.EqAt.none_bool a2
  none_int := fun a2 t2 => SeqAt.EqAt.none_int a2 t2
  none_str := fun a2 t2 => SeqAt.EqAt.none_str a2 t2
  none_tuple := fun _ _ h2 => SeqAt.EqAt.none_tuple h2 hu
  none_list := fun _ _ h2 => SeqAt.EqAt.none_list h2 hu
  bool_none := fun a1 => SeqAt.EqAt.bool_none a1
  bool_bool := fun a1 a2 => SeqAt.EqAt.bool_bool a1 a2
  bool_int := fun a1 a2 t2 => SeqAt.EqAt.bool_int a1 a2 t2
  bool_str := fun a1 a2 t2 => SeqAt.EqAt.bool_str a1 a2 t2
  bool_tuple := fun a1 _ _ h2 => SeqAt.EqAt.bool_tuple a1 h2 hu
  bool_list := fun a1 _ _ h2 => SeqAt.EqAt.bool_list a1 h2 hu
  int_none := fun a1 t1 => SeqAt.EqAt.int_none a1 t1
  int_bool := fun a1 t1 a2 => SeqAt.EqAt.int_bool a1 t1 a2
  int_int := fun a1 t1 a2 t2 => SeqAt.EqAt.int_int a1 t1 a2 t2
  int_str := fun a1 t1 a2 t2 => SeqAt.EqAt.int_str a1 t1 a2 t2
  int_tuple := fun a1 t1 _ _ h2 => SeqAt.EqAt.int_tuple a1 t1 h2 hu
  int_list := fun a1 t1 _ _ h2 => SeqAt.EqAt.int_list a1 t1 h2 hu
  str_none := fun a1 t1 => SeqAt.EqAt.str_none a1 t1
  str_bool := fun a1 t1 a2 => SeqAt.EqAt.str_bool a1 t1 a2
  str_int := fun a1 t1 a2 t2 => SeqAt.EqAt.str_int a1 t1 a2 t2
  str_str := fun a1 t1 a2 t2 => SeqAt.EqAt.str_str a1 t1 a2 t2
  str_tuple := fun a1 t1 _ _ h2 => SeqAt.EqAt.str_tuple a1 t1 h2 hu
  str_list := fun a1 t1 _ _ h2 => SeqAt.EqAt.str_list a1 t1 h2 hu
  tuple_none := fun _ _ h1 => SeqAt.EqAt.tuple_none h1 hu
  tuple_bool := fun _ _ h1 a2 => SeqAt.EqAt.tuple_bool a2 h1 hu
  tuple_int := fun _ _ h1 a2 t2 => SeqAt.EqAt.tuple_int a2 t2 h1 hu
  tuple_str := fun _ _ h1 a2 t2 => SeqAt.EqAt.tuple_str a2 t2 h1 hu
  tuple_list := fun _ _ h1 _ _ h2 => SeqAt.EqAt.tuple_list h1 h2 hu
  list_none := fun _ _ h1 => SeqAt.EqAt.list_none h1 hu
  list_bool := fun _ _ h1 a2 => SeqAt.EqAt.list_bool a2 h1 hu
  list_int := fun _ _ h1 a2 t2 => SeqAt.EqAt.list_int a2 t2 h1 hu
  list_str := fun _ _ h1 a2 t2 => SeqAt.EqAt.list_str a2 t2 h1 hu
  list_tuple := fun _ _ h1 _ _ h2 => SeqAt.EqAt.list_tuple h1 h2 hu
theorem mQ {A : Around} {s : Shared} (hu : A.units < cLine) : Pairs A s id (SeqAt.RcAt A s) where
  none_none := fun _ => SeqAt.RcAt.none_none
  none_bool := fun a2 => SeqAt.RcAt.none_bool a2
  none_int := fun a2 t2 => SeqAt.RcAt.none_int a2 t2
  none_str := fun a2 t2 => SeqAt.RcAt.none_str a2 t2
  none_tuple := fun _ _ h2 => SeqAt.RcAt.none_tuple h2 hu
  none_list := fun _ _ h2 => SeqAt.RcAt.none_list h2 hu
  bool_none := fun a1 => SeqAt.RcAt.bool_none a1
  bool_bool := fun a1 a2 => SeqAt.RcAt.bool_bool a1 a2
  bool_int := fun a1 a2 t2 => SeqAt.RcAt.bool_int a1 a2 t2
  bool_str := fun a1 a2 t2 => SeqAt.RcAt.bool_str a1 a2 t2
  bool_tuple := fun a1 _ _ h2 => SeqAt.RcAt.bool_tuple a1 h2 hu
  bool_list := fun a1 _ _ h2 => SeqAt.RcAt.bool_list a1 h2 hu
  int_none := fun a1 t1 => SeqAt.RcAt.int_none a1 t1
  int_bool := fun a1 t1 a2 => SeqAt.RcAt.int_bool a1 t1 a2
  int_int := fun a1 t1 a2 t2 => SeqAt.RcAt.int_int a1 t1 a2 t2
  int_str := fun a1 t1 a2 t2 => SeqAt.RcAt.int_str a1 t1 a2 t2
  int_tuple := fun a1 t1 _ _ h2 => SeqAt.RcAt.int_tuple a1 t1 h2 hu
  int_list := fun a1 t1 _ _ h2 => SeqAt.RcAt.int_list a1 t1 h2 hu
  str_none := fun a1 t1 => SeqAt.RcAt.str_none a1 t1
  str_bool := fun a1 t1 a2 => SeqAt.RcAt.str_bool a1 t1 a2
  str_int := fun a1 t1 a2 t2 => SeqAt.RcAt.str_int a1 t1 a2 t2
  str_str := fun a1 t1 a2 t2 => SeqAt.RcAt.str_str a1 t1 a2 t2
  str_tuple := fun a1 t1 _ _ h2 => SeqAt.RcAt.str_tuple a1 t1 h2 hu
  str_list := fun a1 t1 _ _ h2 => SeqAt.RcAt.str_list a1 t1 h2 hu
  tuple_none := fun _ _ h1 => SeqAt.RcAt.tuple_none h1 hu
  tuple_bool := fun _ _ h1 a2 => SeqAt.RcAt.tuple_bool a2 h1 hu
  tuple_int := fun _ _ h1 a2 t2 => SeqAt.RcAt.tuple_int a2 t2 h1 hu
  tuple_str := fun _ _ h1 a2 t2 => SeqAt.RcAt.tuple_str a2 t2 h1 hu
  tuple_list := fun _ _ h1 _ _ h2 => SeqAt.RcAt.tuple_list h1 h2 hu
  list_none := fun _ _ h1 => SeqAt.RcAt.list_none h1 hu
  list_bool := fun _ _ h1 a2 => SeqAt.RcAt.list_bool a2 h1 hu
  list_int := fun _ _ h1 a2 t2 => SeqAt.RcAt.list_int a2 t2 h1 hu
  list_str := fun _ _ h1 a2 t2 => SeqAt.RcAt.list_str a2 t2 h1 hu
  list_tuple := fun _ _ h1 _ _ h2 => SeqAt.RcAt.list_tuple h1 h2 hu
theorem uC {A : Around} {s : Shared} (hu : A.units < cLine) : Pairs A s Bool.not (SeqAt.RcNeAt A s) where
  none_none := fun _ => SeqAt.RcNeAt.none_none
  none_bool := fun a2 => SeqAt.RcNeAt.none_bool a2
  none_int := fun a2 t2 => SeqAt.RcNeAt.none_int a2 t2
  none_str := fun a2 t2 => SeqAt.RcNeAt.none_str a2 t2
  none_tuple := fun _ _ h2 => SeqAt.RcNeAt.none_tuple h2 hu
  none_list := fun _ _ h2 => SeqAt.RcNeAt.none_list h2 hu
  bool_none := fun a1 => SeqAt.RcNeAt.bool_none a1
  bool_bool := fun a1 a2 => SeqAt.RcNeAt.bool_bool a1 a2
  bool_int := fun a1 a2 t2 => SeqAt.RcNeAt.bool_int a1 a2 t2
  bool_str := fun a1 a2 t2 => SeqAt.RcNeAt.bool_str a1 a2 t2
  bool_tuple := fun a1 _ _ h2 => SeqAt.RcNeAt.bool_tuple a1 h2 hu
  bool_list := fun a1 _ _ h2 => SeqAt.RcNeAt.bool_list a1 h2 hu
  int_none := fun a1 t1 => SeqAt.RcNeAt.int_none a1 t1
  int_bool := fun a1 t1 a2 => SeqAt.RcNeAt.int_bool a1 t1 a2
  int_int := fun a1 t1 a2 t2 => SeqAt.RcNeAt.int_int a1 t1 a2 t2
  int_str := fun a1 t1 a2 t2 => SeqAt.RcNeAt.int_str a1 t1 a2 t2
  int_tuple := fun a1 t1 _ _ h2 => SeqAt.RcNeAt.int_tuple a1 t1 h2 hu
  int_list := fun a1 t1 _ _ h2 => SeqAt.RcNeAt.int_list a1 t1 h2 hu
  str_none := fun a1 t1 => SeqAt.RcNeAt.str_none a1 t1
  str_bool := fun a1 t1 a2 => SeqAt.RcNeAt.str_bool a1 t1 a2
  str_int := fun a1 t1 a2 t2 => SeqAt.RcNeAt.str_int a1 t1 a2 t2
  str_str := fun a1 t1 a2 t2 => SeqAt.RcNeAt.str_str a1 t1 a2 t2
  str_tuple := fun a1 t1 _ _ h2 => SeqAt.RcNeAt.str_tuple a1 t1 h2 hu
  str_list := fun a1 t1 _ _ h2 => SeqAt.RcNeAt.str_list a1 t1 h2 hu
  tuple_none := fun _ _ h1 => SeqAt.RcNeAt.tuple_none h1 hu
  tuple_bool := fun _ _ h1 a2 => SeqAt.RcNeAt.tuple_bool a2 h1 hu
  tuple_int := fun _ _ h1 a2 t2 => SeqAt.RcNeAt.tuple_int a2 t2 h1 hu
  tuple_str := fun _ _ h1 a2 t2 => SeqAt.RcNeAt.tuple_str a2 t2 h1 hu
  tuple_list := fun _ _ h1 _ _ h2 => SeqAt.RcNeAt.tuple_list h1 h2 hu
  list_none := fun _ _ h1 => SeqAt.RcNeAt.list_none h1 hu
  list_bool := fun _ _ h1 a2 => SeqAt.RcNeAt.list_bool a2 h1 hu
  list_int := fun _ _ h1 a2 t2 => SeqAt.RcNeAt.list_int a2 t2 h1 hu
  list_str := fun _ _ h1 a2 t2 => SeqAt.RcNeAt.list_str a2 t2 h1 hu
  list_tuple := fun _ _ h1 _ _ h2 => SeqAt.RcNeAt.list_tuple h1 h2 hu
theorem pairs_at {X : Cx} {pins : List (Addr × Obj)} {sg : L2.St} {H : Hp} {s : Shared} {W : Addr → Prop} {io : List Addr} (I : Inv X pins sg H s) {A : Around} {f : Bool → Bool} {R : Value → Value → Bool → Prop} (P : Pairs A s f R) : ∀ (u1 u2 : U) {x1 x2 : V} {v1 v2 : Value} {b : Bool}, Rep X.K W io H u1 x1 → Rep X.K W io H u2 x2 → RelV x1 v1 → RelV x2 v2 → eqP u1 u2 = some b → R v1 v2 (f b)
  | .non, .non, x1, x2, v1, v2, b, r1, r2, rv1, rv2, e => by
    have e1 := r1.cU; subst e1; have z1 : v1 = Value.none := rv1; subst z1
    have e2 := r2.cU; subst e2; have z2 : v2 = Value.none := rv2; subst z2
    cases e; exact P.none_none trivial
  | .non, .bl a2, x1, x2, v1, v2, b, r1, r2, rv1, rv2, e => by
    have e1 := r1.cU; subst e1; have z1 : v1 = Value.none := rv1; subst z1
    have e2 := r2.bl'; subst e2; have z2 : v2 = Value.bool a2 := rv2; subst z2
    cases e; exact P.none_bool a2
  | .non, .int a2, x1, x2, v1, v2, b, r1, r2, rv1, rv2, e => by
    have e1 := r1.cU; subst e1; have z1 : v1 = Value.none := rv1; subst z1
    have e2 := r2.int'; subst e2; obtain ⟨t2, z2⟩ := rv2; subst z2
    cases e; exact P.none_int a2 t2
  | .non, .str a2, x1, x2, v1, v2, b, r1, r2, rv1, rv2, e => by
    have e1 := r1.cU; subst e1; have z1 : v1 = Value.none := rv1; subst z1
    have e2 := r2.a_; subst e2; obtain ⟨t2, z2⟩ := rv2; subst z2
    cases e; exact P.none_str a2 t2
  | .non, .tup us2, x1, x2, v1, v2, b, r1, r2, rv1, rv2, e => by
    have e1 := r1.cU; subst e1; have z1 : v1 = Value.none := rv1; subst z1
    obtain ⟨l2, vs2, e2, q2, p2⟩ := r2.bH; subst e2; have z2 : v2 = Value.ref l2 := rv2; subst z2; obtain ⟨its2, w2, h2, _⟩ := I.tuple q2.sq
    cases e; exact P.none_tuple _ _ h2
  | .non, .lst us2, x1, x2, v1, v2, b, r1, r2, rv1, rv2, e => by
    have e1 := r1.cU; subst e1; have z1 : v1 = Value.none := rv1; subst z1
    obtain ⟨l2, vs2, e2, q2, p2⟩ := r2.bz; subst e2; have z2 : v2 = Value.ref l2 := rv2; subst z2; obtain ⟨its2, w2, g2, _⟩ := I.list q2.sq; have h2 := g2.isList
    cases e; exact P.none_list _ _ h2
  | .bl a1, .non, x1, x2, v1, v2, b, r1, r2, rv1, rv2, e => by
    have e1 := r1.bl'; subst e1; have z1 : v1 = Value.bool a1 := rv1; subst z1
    have e2 := r2.cU; subst e2; have z2 : v2 = Value.none := rv2; subst z2
    cases e; exact P.bool_none a1
  | .bl a1, .bl a2, x1, x2, v1, v2, b, r1, r2, rv1, rv2, e => by
    have e1 := r1.bl'; subst e1; have z1 : v1 = Value.bool a1 := rv1; subst z1
    have e2 := r2.bl'; subst e2; have z2 : v2 = Value.bool a2 := rv2; subst z2
    cases e; exact P.bool_bool a1 a2
  | .bl a1, .int a2, x1, x2, v1, v2, b, r1, r2, rv1, rv2, e => by
    have e1 := r1.bl'; subst e1; have z1 : v1 = Value.bool a1 := rv1; subst z1
    have e2 := r2.int'; subst e2; obtain ⟨t2, z2⟩ := rv2; subst z2
    cases e; exact P.bool_int a1 a2 t2
  | .bl a1, .str a2, x1, x2, v1, v2, b, r1, r2, rv1, rv2, e => by
    have e1 := r1.bl'; subst e1; have z1 : v1 = Value.bool a1 := rv1; subst z1
    have e2 := r2.a_; subst e2; obtain ⟨t2, z2⟩ := rv2; subst z2
    cases e; exact P.bool_str a1 a2 t2
  | .bl a1, .tup us2, x1, x2, v1, v2, b, r1, r2, rv1, rv2, e => by
    have e1 := r1.bl'; subst e1; have z1 : v1 = Value.bool a1 := rv1; subst z1
    obtain ⟨l2, vs2, e2, q2, p2⟩ := r2.bH; subst e2; have z2 : v2 = Value.ref l2 := rv2; subst z2; obtain ⟨its2, w2, h2, _⟩ := I.tuple q2.sq
    cases e; exact P.bool_tuple a1 _ _ h2
  | .bl a1, .lst us2, x1, x2, v1, v2, b, r1, r2, rv1, rv2, e => by
    have e1 := r1.bl'; subst e1; have z1 : v1 = Value.bool a1 := rv1; subst z1
    obtain ⟨l2, vs2, e2, q2, p2⟩ := r2.bz; subst e2; have z2 : v2 = Value.ref l2 := rv2; subst z2; obtain ⟨its2, w2, g2, _⟩ := I.list q2.sq; have h2 := g2.isList
    cases e; exact P.bool_list a1 _ _ h2
  | .int a1, .non, x1, x2, v1, v2, b, r1, r2, rv1, rv2, e => by
    have e1 := r1.int'; subst e1; obtain ⟨t1, z1⟩ := rv1; subst z1
    have e2 := r2.cU; subst e2; have z2 : v2 = Value.none := rv2; subst z2
    cases e; exact P.int_none a1 t1
  | .int a1, .bl a2, x1, x2, v1, v2, b, r1, r2, rv1, rv2, e => by
    have e1 := r1.int'; subst e1; obtain ⟨t1, z1⟩ := rv1; subst z1
    have e2 := r2.bl'; subst e2; have z2 : v2 = Value.bool a2 := rv2; subst z2
    cases e; exact P.int_bool a1 t1 a2
  | .int a1, .int a2, x1, x2, v1, v2, b, r1, r2, rv1, rv2, e => by
    have e1 := r1.int'; subst e1; obtain ⟨t1, z1⟩ := rv1; subst z1
    have e2 := r2.int'; subst e2; obtain ⟨t2, z2⟩ := rv2; subst z2
    cases e; exact P.int_int a1 t1 a2 t2
  | .int a1, .str a2, x1, x2, v1, v2, b, r1, r2, rv1, rv2, e => by
    have e1 := r1.int'; subst e1; obtain ⟨t1, z1⟩ := rv1; subst z1
    have e2 := r2.a_; subst e2; obtain ⟨t2, z2⟩ := rv2; subst z2
    cases e; exact P.int_str a1 t1 a2 t2
  | .int a1, .tup us2, x1, x2, v1, v2, b, r1, r2, rv1, rv2, e => by
    have e1 := r1.int'; subst e1; obtain ⟨t1, z1⟩ := rv1; subst z1
    obtain ⟨l2, vs2, e2, q2, p2⟩ := r2.bH; subst e2; have z2 : v2 = Value.ref l2 := rv2; subst z2; obtain ⟨its2, w2, h2, _⟩ := I.tuple q2.sq
    cases e; exact P.int_tuple a1 t1 _ _ h2
  | .int a1, .lst us2, x1, x2, v1, v2, b, r1, r2, rv1, rv2, e => by
    have e1 := r1.int'; subst e1; obtain ⟨t1, z1⟩ := rv1; subst z1
    obtain ⟨l2, vs2, e2, q2, p2⟩ := r2.bz; subst e2; have z2 : v2 = Value.ref l2 := rv2; subst z2; obtain ⟨its2, w2, g2, _⟩ := I.list q2.sq; have h2 := g2.isList
    cases e; exact P.int_list a1 t1 _ _ h2
  | .str a1, .non, x1, x2, v1, v2, b, r1, r2, rv1, rv2, e => by
    have e1 := r1.a_; subst e1; obtain ⟨t1, z1⟩ := rv1; subst z1
    have e2 := r2.cU; subst e2; have z2 : v2 = Value.none := rv2; subst z2
    cases e; exact P.str_none a1 t1
  | .str a1, .bl a2, x1, x2, v1, v2, b, r1, r2, rv1, rv2, e => by
    have e1 := r1.a_; subst e1; obtain ⟨t1, z1⟩ := rv1; subst z1
    have e2 := r2.bl'; subst e2; have z2 : v2 = Value.bool a2 := rv2; subst z2
    cases e; exact P.str_bool a1 t1 a2
  | .str a1, .int a2, x1, x2, v1, v2, b, r1, r2, rv1, rv2, e => by
    have e1 := r1.a_; subst e1; obtain ⟨t1, z1⟩ := rv1; subst z1
    have e2 := r2.int'; subst e2; obtain ⟨t2, z2⟩ := rv2; subst z2
    cases e; exact P.str_int a1 t1 a2 t2
  | .str a1, .str a2, x1, x2, v1, v2, b, r1, r2, rv1, rv2, e => by
    have e1 := r1.a_; subst e1; obtain ⟨t1, z1⟩ := rv1; subst z1
    have e2 := r2.a_; subst e2; obtain ⟨t2, z2⟩ := rv2; subst z2
    cases e; exact P.str_str a1 t1 a2 t2
  | .str a1, .tup us2, x1, x2, v1, v2, b, r1, r2, rv1, rv2, e => by
    have e1 := r1.a_; subst e1; obtain ⟨t1, z1⟩ := rv1; subst z1
    obtain ⟨l2, vs2, e2, q2, p2⟩ := r2.bH; subst e2; have z2 : v2 = Value.ref l2 := rv2; subst z2; obtain ⟨its2, w2, h2, _⟩ := I.tuple q2.sq
    cases e; exact P.str_tuple a1 t1 _ _ h2
  | .str a1, .lst us2, x1, x2, v1, v2, b, r1, r2, rv1, rv2, e => by
    have e1 := r1.a_; subst e1; obtain ⟨t1, z1⟩ := rv1; subst z1
    obtain ⟨l2, vs2, e2, q2, p2⟩ := r2.bz; subst e2; have z2 : v2 = Value.ref l2 := rv2; subst z2; obtain ⟨its2, w2, g2, _⟩ := I.list q2.sq; have h2 := g2.isList
    cases e; exact P.str_list a1 t1 _ _ h2
  | .tup us1, .non, x1, x2, v1, v2, b, r1, r2, rv1, rv2, e => by
    obtain ⟨l1, vs1, e1, q1, p1⟩ := r1.bH; subst e1; have z1 : v1 = Value.ref l1 := rv1; subst z1; obtain ⟨its1, w1, h1, _⟩ := I.tuple q1.sq
    have e2 := r2.cU; subst e2; have z2 : v2 = Value.none := rv2; subst z2
    cases e; exact P.tuple_none _ _ h1
  | .tup us1, .bl a2, x1, x2, v1, v2, b, r1, r2, rv1, rv2, e => by
    obtain ⟨l1, vs1, e1, q1, p1⟩ := r1.bH; subst e1; have z1 : v1 = Value.ref l1 := rv1; subst z1; obtain ⟨its1, w1, h1, _⟩ := I.tuple q1.sq
    have e2 := r2.bl'; subst e2; have z2 : v2 = Value.bool a2 := rv2; subst z2
    cases e; exact P.tuple_bool _ _ h1 a2
  | .tup us1, .int a2, x1, x2, v1, v2, b, r1, r2, rv1, rv2, e => by
    obtain ⟨l1, vs1, e1, q1, p1⟩ := r1.bH; subst e1; have z1 : v1 = Value.ref l1 := rv1; subst z1; obtain ⟨its1, w1, h1, _⟩ := I.tuple q1.sq
    have e2 := r2.int'; subst e2; obtain ⟨t2, z2⟩ := rv2; subst z2
    cases e; exact P.tuple_int _ _ h1 a2 t2
  | .tup us1, .str a2, x1, x2, v1, v2, b, r1, r2, rv1, rv2, e => by
    obtain ⟨l1, vs1, e1, q1, p1⟩ := r1.bH; subst e1; have z1 : v1 = Value.ref l1 := rv1; subst z1; obtain ⟨its1, w1, h1, _⟩ := I.tuple q1.sq
    have e2 := r2.a_; subst e2; obtain ⟨t2, z2⟩ := rv2; subst z2
    cases e; exact P.tuple_str _ _ h1 a2 t2
  | .tup us1, .lst us2, x1, x2, v1, v2, b, r1, r2, rv1, rv2, e => by
    obtain ⟨l1, vs1, e1, q1, p1⟩ := r1.bH; subst e1; have z1 : v1 = Value.ref l1 := rv1; subst z1; obtain ⟨its1, w1, h1, _⟩ := I.tuple q1.sq
    obtain ⟨l2, vs2, e2, q2, p2⟩ := r2.bz; subst e2; have z2 : v2 = Value.ref l2 := rv2; subst z2; obtain ⟨its2, w2, g2, _⟩ := I.list q2.sq; have h2 := g2.isList
    cases e; exact P.tuple_list _ _ h1 _ _ h2
  | .lst us1, .non, x1, x2, v1, v2, b, r1, r2, rv1, rv2, e => by
    obtain ⟨l1, vs1, e1, q1, p1⟩ := r1.bz; subst e1; have z1 : v1 = Value.ref l1 := rv1; subst z1; obtain ⟨its1, w1, g1, _⟩ := I.list q1.sq; have h1 := g1.isList
    have e2 := r2.cU; subst e2; have z2 : v2 = Value.none := rv2; subst z2
    cases e; exact P.list_none _ _ h1
  | .lst us1, .bl a2, x1, x2, v1, v2, b, r1, r2, rv1, rv2, e => by
    obtain ⟨l1, vs1, e1, q1, p1⟩ := r1.bz; subst e1; have z1 : v1 = Value.ref l1 := rv1; subst z1; obtain ⟨its1, w1, g1, _⟩ := I.list q1.sq; have h1 := g1.isList
    have e2 := r2.bl'; subst e2; have z2 : v2 = Value.bool a2 := rv2; subst z2
    cases e; exact P.list_bool _ _ h1 a2
  | .lst us1, .int a2, x1, x2, v1, v2, b, r1, r2, rv1, rv2, e => by
    obtain ⟨l1, vs1, e1, q1, p1⟩ := r1.bz; subst e1; have z1 : v1 = Value.ref l1 := rv1; subst z1; obtain ⟨its1, w1, g1, _⟩ := I.list q1.sq; have h1 := g1.isList
    have e2 := r2.int'; subst e2; obtain ⟨t2, z2⟩ := rv2; subst z2
    cases e; exact P.list_int _ _ h1 a2 t2
  | .lst us1, .str a2, x1, x2, v1, v2, b, r1, r2, rv1, rv2, e => by
    obtain ⟨l1, vs1, e1, q1, p1⟩ := r1.bz; subst e1; have z1 : v1 = Value.ref l1 := rv1; subst z1; obtain ⟨its1, w1, g1, _⟩ := I.list q1.sq; have h1 := g1.isList
    have e2 := r2.a_; subst e2; obtain ⟨t2, z2⟩ := rv2; subst z2
    cases e; exact P.list_str _ _ h1 a2 t2
  | .lst us1, .tup us2, x1, x2, v1, v2, b, r1, r2, rv1, rv2, e => by
    obtain ⟨l1, vs1, e1, q1, p1⟩ := r1.bz; subst e1; have z1 : v1 = Value.ref l1 := rv1; subst z1; obtain ⟨its1, w1, g1, _⟩ := I.list q1.sq; have h1 := g1.isList
    obtain ⟨l2, vs2, e2, q2, p2⟩ := r2.bH; subst e2; have z2 : v2 = Value.ref l2 := rv2; subst z2; obtain ⟨its2, w2, h2, _⟩ := I.tuple q2.sq
    cases e; exact P.list_tuple _ _ h1 _ _ h2
  | .tup us1, .tup us2, _, _, _, _, _, _, _, _, _, h => nomatch h
  | .lst us1, .lst us2, _, _, _, _, _, _, _, _, _, h => nomatch h
  | .dct _ _, u2, _, _, _, _, _, _, _, _, _, h => by cases u2 <;> cases h
  | .non, .dct _ _, _, _, _, _, _, _, _, _, _, h => nomatch h
  | .bl _, .dct _ _, _, _, _, _, _, _, _, _, _, h => nomatch h
  | .int _, .dct _ _, _, _, _, _, _, _, _, _, _, h => nomatch h
  | .str _, .dct _ _, _, _, _, _, _, _, _, _, _, h => nomatch h
  | .tup _, .dct _ _, _, _, _, _, _, _, _, _, _, h => nomatch h
  | .lst _, .dct _ _, _, _, _, _, _, _, _, _, _, h => nomatch h
  | .ref _, u2, _, _, _, _, _, _, _, _, _, h => by cases u2 <;> cases h
  | .non, .ref _, _, _, _, _, _, _, _, _, _, h => nomatch h
  | .bl _, .ref _, _, _, _, _, _, _, _, _, _, h => nomatch h
  | .int _, .ref _, _, _, _, _, _, _, _, _, _, h => nomatch h
  | .str _, .ref _, _, _, _, _, _, _, _, _, _, h => nomatch h
  | .tup _, .ref _, _, _, _, _, _, _, _, _, _, h => nomatch h
  | .lst _, .ref _, _, _, _, _, _, _, _, _, _, h => nomatch h
  | .ty _, u2, _, _, _, _, _, _, _, _, _, h => by cases u2 <;> cases h
  | .non, .ty _, _, _, _, _, _, _, _, _, _, h => nomatch h
  | .bl _, .ty _, _, _, _, _, _, _, _, _, _, h => nomatch h
  | .int _, .ty _, _, _, _, _, _, _, _, _, _, h => nomatch h
  | .str _, .ty _, _, _, _, _, _, _, _, _, _, h => nomatch h
  | .tup _, .ty _, _, _, _, _, _, _, _, _, _, h => nomatch h
  | .lst _, .ty _, _, _, _, _, _, _, _, _, _, h => nomatch h
  | .scr _, u2, _, _, _, _, _, _, _, _, _, h => by cases u2 <;> cases h
  | .non, .scr _, _, _, _, _, _, _, _, _, _, h => nomatch h
  | .bl _, .scr _, _, _, _, _, _, _, _, _, _, h => nomatch h
  | .int _, .scr _, _, _, _, _, _, _, _, _, _, h => nomatch h
  | .str _, .scr _, _, _, _, _, _, _, _, _, _, h => nomatch h
  | .tup _, .scr _, _, _, _, _, _, _, _, _, _, h => nomatch h
  | .lst _, .scr _, _, _, _, _, _, _, _, _, _, h => nomatch h
noncomputable def eqZ (f : U → U → Option Bool) : List U → List U → Option Bool
  | u :: us, v :: vs => match f u v, eqZ f us vs with
    | some a, some b => some (a && b)
    | _, _ => none
  | _, _ => some true
noncomputable def eqF : Nat → U → U → Option Bool
  | 0, _, _ => none
  | n + 1, .tup us, .tup vs => (eqZ (eqF n) us vs).map (fun b => b && decide (us.length = vs.length))
  | n + 1, .lst us, .lst vs => if us.length = vs.length then eqZ (eqF n) us vs else some false
  | _ + 1, u, v => eqP u v
theorem gY {f : U → U → Option Bool} : ∀ {us vs : List U} {b : Bool}, eqZ f us vs = some b → ∀ (j : Nat) (u v : U), us[j]? = some u → vs[j]? = some v → ∃ c, f u v = some c ∧ (b = true → c = true)
  | [], _, _, _, _, _, _, e, _ => by simp at e
  | _ :: _, [], _, _, _, _, _, _, e => by simp at e
  | u :: us, v :: vs, b, h, j, u', v', e1, e2 => by
    unfold eqZ at h
    split at h
    · rename_i a c ha hc
      cases h
      cases j with
      | zero =>
        simp at e1 e2; subst e1; subst e2
        exact ⟨a, ha, fun z => (Bool.and_eq_true_iff.mp z).1⟩
      | succ j =>
        obtain ⟨d, h1, h2⟩ := gY hc j u' v' (by simpa using e1) (by simpa using e2)
        exact ⟨d, h1, fun z => h2 (Bool.and_eq_true_iff.mp z).2⟩
    · cases h
theorem lJ {f : U → U → Option Bool} : ∀ {us vs : List U} {b : Bool}, eqZ f us vs = some b → (∀ (j : Nat) (u v : U), us[j]? = some u → vs[j]? = some v → f u v = some true) → b = true
  | [], _, _, h, _ => by unfold eqZ at h; cases h; rfl
  | _ :: _, [], _, h, _ => by unfold eqZ at h; cases h; rfl
  | u :: us, v :: vs, b, h, k => by
    unfold eqZ at h
    split at h
    · rename_i a c ha hc
      cases h
      have h1 := k 0 u v rfl rfl
      rw [ha] at h1; cases h1
      have h2 := lJ hc fun j u' v' e1 e2 => k (j + 1) u' v' (by simpa using e1) (by simpa using e2)
      subst h2; rfl
    · cases h
theorem lM (n : Nat) (u w : U) (h1 : ¬ ∃ us vs, u = .tup us ∧ w = .tup vs) (h2 : ¬ ∃ us vs, u = .lst us ∧ w = .lst vs) : eqF (n + 1) u w = eqP u w := by
  unfold eqF
  split
  · rename_i h; cases h
  · exact (h1 ⟨_, _, rfl, rfl⟩).elim
  · exact (h2 ⟨_, _, rfl, rfl⟩).elim
  · rfl
section
variable {X : Cx} {pins : List (Addr × Obj)} {sg : L2.St} {H : Hp} {s : Shared} {W : Addr → Prop} {io : List Addr}
theorem vD (I : Inv X pins sg H s) : ∀ (u w : U) {x : V} {b : Bool}, Rep X.K W io H u x → Rep X.K W io H w x → eqP u w = some b → b = true := by
  intro u w x b r1 r2 e
  cases u with
  | non =>
    have e1 := r1.cU; subst e1
    cases w <;> first | (cases e; rfl) | cases e
    · cases r2.bl'
    · cases r2.int'
    · cases r2.a_
    · obtain ⟨_, _, z, _⟩ := r2.bH; cases z
    · obtain ⟨_, _, z, _⟩ := r2.bz; cases z
  | bl c =>
    have e1 := r1.bl'; subst e1
    cases w with
    | bl d => cases r2.bl'; cases e; simp
    | non => cases r2.cU
    | int i => cases r2.int'
    | str i => cases r2.a_
    | tup us => obtain ⟨_, _, z, _⟩ := r2.bH; cases z
    | lst us => obtain ⟨_, _, z, _⟩ := r2.bz; cases z
    | _ => cases e
  | int c =>
    have e1 := r1.int'; subst e1
    cases w with
    | int d => cases r2.int'; cases e; simp
    | non => cases r2.cU
    | bl i => cases r2.bl'
    | str i => cases r2.a_
    | tup us => obtain ⟨_, _, z, _⟩ := r2.bH; cases z
    | lst us => obtain ⟨_, _, z, _⟩ := r2.bz; cases z
    | _ => cases e
  | str c =>
    have e1 := r1.a_; subst e1
    cases w with
    | str d => cases r2.a_; cases e; simp
    | non => cases r2.cU
    | bl i => cases r2.bl'
    | int i => cases r2.int'
    | tup us => obtain ⟨_, _, z, _⟩ := r2.bH; cases z
    | lst us => obtain ⟨_, _, z, _⟩ := r2.bz; cases z
    | _ => cases e
  | tup us =>
    obtain ⟨a, vs, e1, l, _⟩ := r1.bH; subst e1
    cases w with
    | non => cases r2.cU
    | bl i => cases r2.bl'
    | int i => cases r2.int'
    | str i => cases r2.a_
    | lst us =>
      obtain ⟨_, _, z, l2, _⟩ := r2.bz; cases z
      obtain ⟨_, _, h1, _⟩ := I.tuple l.sq
      obtain ⟨_, _, h2, _⟩ := I.list l2.sq
      exact (SeqAt.ne_of_list_tuple h2.isList h1 rfl).elim
    | _ => cases e
  | lst us =>
    obtain ⟨a, vs, e1, l, _⟩ := r1.bz; subst e1
    cases w with
    | non => cases r2.cU
    | bl i => cases r2.bl'
    | int i => cases r2.int'
    | str i => cases r2.a_
    | tup us =>
      obtain ⟨_, _, z, l2, _⟩ := r2.bH; cases z
      obtain ⟨_, _, h1, _⟩ := I.tuple l2.sq
      obtain ⟨_, _, h2, _⟩ := I.list l.sq
      exact (SeqAt.ne_of_list_tuple h2.isList h1 rfl).elim
    | _ => cases e
  | _ => cases w <;> cases e
theorem nH {f : U → U → Option Bool} {us ws : List U} {vs : List V} {b : Bool} (r1 : aq X.K W io H us vs) (r2 : aq X.K W io H ws vs) (ih : ∀ (u w : U) (x : V) (b : Bool), Rep X.K W io H u x → Rep X.K W io H w x → f u w = some b → b = true) (h : eqZ f us ws = some b) : b = true := by
  refine lJ h fun j u v e1 e2 => ?_
  obtain ⟨c, h1, _⟩ := gY h j u v e1 e2
  obtain ⟨x, g1, p1⟩ := r1.get e1
  obtain ⟨y, g2, p2⟩ := r2.get e2
  rw [g1] at g2; cases g2
  rw [h1, ih u v x c p1 p2 h1]
theorem jJ (I : Inv X pins sg H s) : ∀ (n : Nat) (u w : U) (x : V) (b : Bool), Rep X.K W io H u x → Rep X.K W io H w x → eqF n u w = some b → b = true
  | 0, _, _, _, _, _, _, h => by unfold eqF at h; cases h
  | n + 1, u, w, x, b, r1, r2, h => by
    by_cases h1 : ∃ us vs, u = .tup us ∧ w = .tup vs
    · obtain ⟨us, ws, rfl, rfl⟩ := h1
      obtain ⟨a, vs, e1, l, p1⟩ := r1.bH; subst e1
      obtain ⟨_, _, z, l2, p2⟩ := r2.bH; cases z
      have e := I.tuple_inj l.sq l2.sq; subst e
      unfold eqF at h
      cases q : eqZ (eqF n) us ws with
      | none => rw [q] at h; cases h
      | some c =>
        rw [q] at h; cases h
        rw [nH p1 p2 (fun u w x b => jJ I n u w x b) q, p1.length, p2.length]
        simp
    · by_cases h2 : ∃ us vs, u = .lst us ∧ w = .lst vs
      · obtain ⟨us, ws, rfl, rfl⟩ := h2
        obtain ⟨a, vs, e1, l, p1⟩ := r1.bz; subst e1
        obtain ⟨_, _, z, l2, p2⟩ := r2.bz; cases z
        have e := I.list_inj l.sq l2.sq; subst e
        unfold eqF at h
        rw [if_pos (by rw [p1.length, p2.length])] at h
        exact nH p1 p2 (fun u w x b => jJ I n u w x b) h
      · rw [lM n u w h1 h2] at h
        exact vD I u w r1 r2 h
noncomputable def eT (f : U → U → Option Bool) (us ws : List U) (j : Nat) : Bool := decide (f (us.getD j .non) (ws.getD j .non) = some true)
theorem ph {f : U → U → Option Bool} {us ws : List U} {j : Nat} {u w : U} {b : Bool} (h1 : us[j]? = some u) (h2 : ws[j]? = some w) (h : f u w = some b) : eT f us ws j = b := by
  unfold eT
  rw [List.getD_eq_getElem?_getD, List.getD_eq_getElem?_getD, h1, h2, Option.getD_some, Option.getD_some, h]
  cases b <;> simp
theorem vH {f : U → U → Option Bool} : ∀ {us ws : List U} {b : Bool}, eqZ f us ws = some b → (List.range (min us.length ws.length)).all (eT f us ws) = b
  | us, ws, b, h => by
    cases b with
    | true =>
      rw [List.all_eq_true]
      intro j hj
      have hj := List.mem_range.mp hj
      have l1 : j < us.length := by omega
      have l2 : j < ws.length := by omega
      obtain ⟨c, h1, h2⟩ := gY h j us[j] ws[j] (List.getElem?_eq_getElem l1) (List.getElem?_eq_getElem l2)
      rw [ph (List.getElem?_eq_getElem l1) (List.getElem?_eq_getElem l2) h1, h2 rfl]
    | false =>
      cases q : (List.range (min us.length ws.length)).all (eT f us ws) with
      | false => rfl
      | true =>
        rw [List.all_eq_true] at q
        exact absurd (lJ h fun j u v e1 e2 => by
          obtain ⟨c, h1, _⟩ := gY h j u v e1 e2
          have := q j (List.mem_range.mpr (by have := (List.getElem?_eq_some_iff.mp e1).1; have := (List.getElem?_eq_some_iff.mp e2).1; omega))
          rw [ph e1 e2 h1] at this
          rw [h1, this]) (by decide)
theorem ni {f : U → U → Option Bool} {A : Around} {us ws : List U} {vs xs : List V} {its jts : List Value} {b : Bool} (r1 : aq X.K W io H us vs) (r2 : aq X.K W io H ws xs) (v1 : Vals vs its) (v2 : Vals xs jts)
    (ih : ∀ (u w : U) (x y : V) (v v' : Value) (b : Bool), Rep X.K W io H u x → Rep X.K W io H w y → RelV x v → RelV y v' → f u w = some b → SeqAt.EqAt A s v v' b) (h : eqZ f us ws = some b) :
    ∀ j (h1 : j < its.toArray.size) (h2 : j < jts.toArray.size), SeqAt.EqAt A s its.toArray[j] jts.toArray[j] (eT f us ws j) := by
  intro j h1 h2
  have l1 : j < its.length := by simpa using h1
  have l2 : j < jts.length := by simpa using h2
  have k1 : j < us.length := by rw [r1.length, v1.length]; exact l1
  have k2 : j < ws.length := by rw [r2.length, v2.length]; exact l2
  obtain ⟨c, q1, _⟩ := gY h j us[j] ws[j] (List.getElem?_eq_getElem k1) (List.getElem?_eq_getElem k2)
  obtain ⟨x, g1, p1⟩ := r1.get (List.getElem?_eq_getElem k1)
  obtain ⟨y, g2, p2⟩ := r2.get (List.getElem?_eq_getElem k2)
  obtain ⟨v, m1, n1⟩ := v1.get g1
  obtain ⟨v', m2, n2⟩ := v2.get g2
  rw [ph (List.getElem?_eq_getElem k1) (List.getElem?_eq_getElem k2) q1]
  have a1 : its.toArray[j] = v := by
    have := List.getElem?_eq_getElem l1
    rw [m1] at this
    simpa using (Option.some.inj this).symm
  have a2 : jts.toArray[j] = v' := by
    have := List.getElem?_eq_getElem l2
    rw [m2] at this
    simpa using (Option.some.inj this).symm
  rw [a1, a2]
  exact ih _ _ x y v v' c p1 p2 n1 n2 q1
structure Seqs (A : Around) (s : Shared) (f : Bool → Bool) (R : Value → Value → Bool → Prop) : Prop where
  tuples : ∀ {l b : Addr} {items items2 : Array Value} {e : Nat → Bool}, s.heap.IsTuple l items → s.heap.IsTuple b items2 → (∀ j (h1 : j < items.size) (h2 : j < items2.size), SeqAt.EqAt A.in1 s items[j] items2[j] (e j)) → R (.ref l) (.ref b) (f ((List.range (min items.size items2.size)).all e && items.size == items2.size))
  lists : ∀ {l b : Addr} {items items2 : Array Value} {e : Nat → Bool}, s.heap.IsList l items → s.heap.IsList b items2 → items.size = items2.size → (∀ j (h1 : j < items.size) (h2 : j < items2.size), SeqAt.EqAt A.in1 s items[j] items2[j] (e j)) → R (.ref l) (.ref b) (f ((List.range items.size).all e))
  lengths : ∀ {l b : Addr} {items items2 : Array Value}, s.heap.IsList l items → s.heap.IsList b items2 → (items.size != items2.size) = true → R (.ref l) (.ref b) (f false)
theorem pP {A : Around} (hu : A.units < cLine) : Seqs A s id (SeqAt.RcAt A s) := ⟨fun h1 h2 h => SeqAt.RcAt.tuples h1 h2 hu h, fun h1 h2 hz h => SeqAt.RcAt.lists h1 h2 hz hu h, fun h1 h2 hz => SeqAt.RcAt.lists_lengths h1 h2 hz hu⟩
theorem seqs_rn {A : Around} (hu : A.units < cLine) : Seqs A s Bool.not (SeqAt.RcNeAt A s) := ⟨fun h1 h2 h => SeqAt.RcNeAt.tuples h1 h2 hu h, fun h1 h2 hz h => SeqAt.RcNeAt.lists h1 h2 hz hu h, fun h1 h2 hz => SeqAt.RcNeAt.lists_lengths h1 h2 hz hu⟩
theorem jH (I : Inv X pins sg H s) {n : Nat} {A : Around} {f : Bool → Bool} {R : Value → Value → Bool → Prop} (P : Pairs A s f R) (S : Seqs A s f R)
    (ih : ∀ (u w : U) (x y : V) (v v' : Value) (b : Bool), Rep X.K W io H u x → Rep X.K W io H w y → RelV x v → RelV y v' → eqF n u w = some b → SeqAt.EqAt A.in1 s v v' b)
    {u w : U} {x y : V} {v v' : Value} {b : Bool} (r1 : Rep X.K W io H u x) (r2 : Rep X.K W io H w y) (rv1 : RelV x v) (rv2 : RelV y v') (h : eqF (n + 1) u w = some b) : R v v' (f b) := by
  by_cases h1 : ∃ us vs, u = .tup us ∧ w = .tup vs
  · obtain ⟨us, ws, rfl, rfl⟩ := h1
    obtain ⟨a, vs, e1, l, p1⟩ := r1.bH; subst e1
    obtain ⟨a', xs, e2, l2, p2⟩ := r2.bH; subst e2
    cases (show v = Value.ref a from rv1)
    cases (show v' = Value.ref a' from rv2)
    obtain ⟨its, w1, t1, _⟩ := I.tuple l.sq
    obtain ⟨jts, w2, t2, _⟩ := I.tuple l2.sq
    unfold eqF at h
    cases q : eqZ (eqF n) us ws with
    | none => rw [q] at h; cases h
    | some c =>
      rw [q] at h; cases h
      have := S.tuples (e := eT (eqF n) us ws) t1 t2 (ni p1 p2 w1 w2 ih q)
      rw [List.size_toArray, List.size_toArray, ← w1.length, ← w2.length, ← p1.length, ← p2.length, vH q] at this
      have e : (us.length == ws.length) = decide (us.length = ws.length) := by
        by_cases z : us.length = ws.length <;> simp [z]
      rw [e] at this
      exact this
  · by_cases h2 : ∃ us vs, u = .lst us ∧ w = .lst vs
    · obtain ⟨us, ws, rfl, rfl⟩ := h2
      obtain ⟨a, vs, e1, l, p1⟩ := r1.bz; subst e1
      obtain ⟨a', xs, e2, l2, p2⟩ := r2.bz; subst e2
      cases (show v = Value.ref a from rv1)
      cases (show v' = Value.ref a' from rv2)
      obtain ⟨its, w1, t1, _⟩ := I.list l.sq
      obtain ⟨jts, w2, t2, _⟩ := I.list l2.sq
      have z1 : its.toArray.size = us.length := by rw [List.size_toArray, ← w1.length, ← p1.length]
      have z2 : jts.toArray.size = ws.length := by rw [List.size_toArray, ← w2.length, ← p2.length]
      unfold eqF at h
      split at h
      · rename_i hz
        have := S.lists (e := eT (eqF n) us ws) t1.isList t2.isList (by rw [z1, z2, hz]) (ni p1 p2 w1 w2 ih h)
        rw [z1] at this
        have e := vH h
        rw [← hz, Nat.min_self] at e
        rw [e] at this
        exact this
      · rename_i hz
        cases h
        exact S.lengths t1.isList t2.isList (by rw [z1, z2]; simpa using hz)
    · rw [lM n u w h1 h2] at h
      exact pairs_at I P u w r1 r2 rv1 rv2 h
theorem o_ (I : Inv X pins sg H s) : ∀ (n : Nat) (A : Around), A.units + n < cLine → ∀ (u w : U) (x y : V) (v v' : Value) (b : Bool), Rep X.K W io H u x → Rep X.K W io H w y → RelV x v → RelV y v' → eqF n u w = some b → SeqAt.EqAt A s v v' b
  | 0, _, _, _, _, _, _, _, _, _, _, _, _, _, h => by unfold eqF at h; cases h
  | n + 1, A, hu, u, w, x, y, v, v', b, r1, r2, rv1, rv2, h => by
    have ih := o_ I n A.in1 (by show A.units + 1 + n < cLine; omega)
    by_cases hx : (∃ a c, x = .ref a ∧ y = .ref c)
    · obtain ⟨a, c, rfl, rfl⟩ := hx
      cases (show v = Value.ref a from rv1)
      cases (show v' = Value.ref c from rv2)
      by_cases e : a = c
      · subst e
        rw [jJ I (n + 1) u w (.ref a) b r1 r2 h]
        exact SeqAt.EqAt.same _
      · exact SeqAt.EqAt.of_refs e (jH I (mQ (by omega)) (pP (by omega)) ih r1 r2 rv1 rv2 h)
    · rw [lM n u w (fun ⟨us, vs, e1, e2⟩ => hx (by
        subst e1; subst e2
        obtain ⟨a, _, z1, _⟩ := r1.bH
        obtain ⟨c, _, z2, _⟩ := r2.bH
        exact ⟨a, c, z1, z2⟩)) (fun ⟨us, vs, e1, e2⟩ => hx (by
        subst e1; subst e2
        obtain ⟨a, _, z1, _⟩ := r1.bz
        obtain ⟨c, _, z2, _⟩ := r2.bz
        exact ⟨a, c, z1, z2⟩))] at h
      exact pairs_at I (uD (by omega)) u w r1 r2 rv1 rv2 h
end
noncomputable def eq2 (u v : U) : Option U := (eqF 60 u v).map U.bl
noncomputable def ne2 (u v : U) : Option U := (eqF 60 u v).map fun b => U.bl (!b)
section
variable {X : Cx}
theorem uH (hu : X.A.units + 64 < cLine) : OpR X (compareOp .Eq) (P2 X.K eq2) := by
  intro pins s sg H x y v u Q I rx ry h
  obtain ⟨G, io, st, u1, u2, u3, ok, r1, r2, e, q⟩ := h
  unfold eq2 at e
  cases z : eqF 60 u1 u2 with
  | none => rw [z] at e; cases e
  | some b =>
    rw [z] at e; cases e
    exact jH (n := 59) I (mQ (by omega)) (pP (by omega)) (o_ I 59 X.A.in1 (by show X.A.units + 1 + 59 < cLine; omega)) r1 r2 rx ry z _ _ _ _ ⟨.bl b, H, I, rfl, q _ H (Same.refl H) (rBl _)⟩
theorem o_ne (hu : X.A.units + 64 < cLine) : OpR X (compareOp .NotEq) (P2 X.K ne2) := by
  intro pins s sg H x y v u Q I rx ry h
  obtain ⟨G, io, st, u1, u2, u3, ok, r1, r2, e, q⟩ := h
  unfold ne2 at e
  cases z : eqF 60 u1 u2 with
  | none => rw [z] at e; cases e
  | some b =>
    rw [z] at e; cases e
    exact jH (n := 59) I (uC (by omega)) (seqs_rn (by omega)) (o_ I 59 X.A.in1 (by show X.A.units + 1 + 59 < cLine; omega)) r1 r2 rx ry z _ _ _ _ ⟨.bl (!b), H, I, rfl, q _ H (Same.refl H) (rBl _)⟩
end
end D
namespace D
open PySem L2
open AutoSeq1 (wpAny_loadPart')
theorem eX (b : Str) (u : Tok) (l : Addr) (c : Value) (es : Array DictEntry) (n : Nat) (dd : Option Addr) (sl : Array (Option Value)) :
    Meets (Builtin.«str.__eq__» ⟨[.str b u, .ref l], []⟩) (fun _ R s => s.heap.get? l = some { cls := c, dict := dd, data := .dict es n, slots := sl } ∧ R (.ok (.ret .notImplemented)) s) :=
  .of_wp fun prog w A R s h => by obtain ⟨hp, g, d, tk, os⟩ := s; obtain ⟨hl, h⟩ := h; wp_walk using wpAny_loadPart' hl, wpAny_load hl; exact ⟨_, rfl, h⟩
theorem fG {prog : Program} {w : World} {A : Around} {E : Value → Shared → Prop} {s : Shared} (b : Str) (u : Tok) (l : Addr) (hT : s.TypeIs (.ref l) "dict") (Q : Value → Shared → Prop) (h : Q .notImplemented s) :
    wpAny (model prog w) A (call (.builtin "dict.__eq__") [.ref l, .str b u]) Q E s := by
  refine wpAny_call_entry PySem.F.slot_dict_eq_refl hT PySem.F.entry_dict_eq ?_ (PySem.F.args_dict_eq_2 _ _)
  show wpAny _ _ (Builtin.Dict.dictSlotArgs "__eq__" ⟨[.ref l, .str b u], []⟩ >>= _) _ _ s
  refine wpAny_bind ?_
  unfold Builtin.Dict.dictSlotArgs
  refine wpAny_bind (wpAny_notOrdered_dict hT ?_)
  show wpAny _ _ (pure (Value.ref l, Value.str b u)) _ _ s
  refine wpAny_pure ?_
  refine wpAny_bind (wpAny_isInstance (T := "str") (typeIs_str s b u) PySem.F.sub_str_dict ?_)
  simp only [Bool.not_false, if_true]
  refine wpAny_bind (wpAny_rule ?_)
  exact wpAny_pure ⟨_, rfl, h⟩
theorem mJ {A : Around} {s : Shared} {l : Addr} {o : Obj} {es : Array DictEntry} {n : Nat} (ho : s.heap.get? l = some o) (hc : o.cls = .type "dict") (hd : o.data = .dict es n) (b : Str) (u : Tok) (hu : A.units < cLine) : SeqAt.RcAt A s (.str b u) (.ref l) false := fun prog w E Q h => by
  obtain ⟨cls, dd, data, sl⟩ := o
  simp only at hc hd
  subst hc hd
  have hT : s.TypeIs (.ref l) "dict" := ⟨_, ho, rfl⟩
  exact SeqAt.rc_eq_decline_or (k := false) (typeIs_str s b u) hT (by decide) F.sub_dict_str F.slot_str_eq F.slot_dict_eq_refl
    (fun _ hq => call_meets F.slot_str_eq (typeIs_str s b u) F.entry_str_eq (F.args_str_eq_2 _ _) (eX b u l (.type "dict") es n dd sl) ⟨ho, hq⟩)
    (fun _ hq => fG b u l hT _ hq)
    (fun _ hq => wpAny_of_eq (rfl : isSame (.str b u) (.ref l) = pure false) hq) (.inr hu) h
theorem je {A : Around} {s : Shared} {l : Addr} {o : Obj} {es : Array DictEntry} {n : Nat} (ho : s.heap.get? l = some o) (hc : o.cls = .type "dict") (hd : o.data = .dict es n) (b : Str) (u : Tok) (hu : A.units < cLine) : SeqAt.EqAt A s (.str b u) (.ref l) false := fun prog w E Q h => by
  unfold eqBool
  refine wpAny_holding ?_
  refine wpAny_ite_split (fun hab => absurd (eq_of_beq hab) nofun) (fun _ => ?_)
  exact wpAny_bind (mJ ho hc hd b u hu prog w E _ (wpAny_truthy_bool h))
noncomputable def nO : U → Bool
  | .tup _ => true
  | .lst _ => true
  | .dct _ _ => true
  | _ => false
noncomputable def ou : U → Bool
  | .str _ => true
  | _ => false
section
variable {X : Cx} {pins : List (Addr × Obj)} {sg : St} {W : Addr → Prop} {io : List Addr} {H : Hp} {s : Shared} {A : Around}
theorem o9 (I : Inv X pins sg H s) (hu : A.units < cLine) {x : U} {v : V} {r : Value} (hb : nO x = true) (hr : Rep X.K W io H x v) (hv : RelV v r) (b : Str) (u : Tok) : SeqAt.EqAt A s (.str b u) r false := by
  cases x with
  | tup us =>
    obtain ⟨a, vs, rfl, l, _⟩ := hr.bH
    cases hv
    obtain ⟨its, _, pl, _⟩ := I.tuple l.sq
    exact SeqAt.EqAt.str_tuple b u pl hu
  | lst us =>
    obtain ⟨a, vs, rfl, l, _⟩ := hr.bz
    cases hv
    obtain ⟨its, _, pl, _⟩ := I.list l.sq
    exact SeqAt.EqAt.str_list b u pl.isList hu
  | dct ks us =>
    unfold Rep at hr
    obtain ⟨a, vs, rfl, l, _⟩ := hr
    cases hv
    rcases l.2 with ⟨kvs, e, _⟩ | ⟨kvs, e, _⟩
    · obtain ⟨_, _, vs, _, ob, es, ep, h1, h2, h3, _⟩ := dk_rd I.hok e
      exact je h1 h2.1 h3 b u hu
    · obtain ⟨_, _, vs, _, ob, es, ep, h1, h2, h3, _⟩ := dt_rd I.hok (.inl e)
      exact je h1 h2.1 h3 b u hu
  | _ => cases hb
theorem cW (I : Inv X pins sg H s) (hu : A.units < cLine) {x : U} {v : V} {r : Value} (hb : nO x = true) (hr : Rep X.K W io H x v) (hv : RelV v r) : ∀ {us : List U} {vs : List V} {rs : List Value}, us.all ou = true → aq X.K W io H us vs → Vals vs rs → ∀ w ∈ rs, SeqAt.EqAt A s w r false
  | [], _, _, _, h, hs => fun w hw => by rw [h.isNil] at hs; cases hs; cases hw
  | u :: us, _, _, f, h, hs => fun w hw => by
    obtain ⟨v', r', rfl, q, t⟩ := h.uncons
    rw [List.all_cons, Bool.and_eq_true] at f
    cases hs with
    | cons ry rt =>
      rcases List.mem_cons.mp hw with rfl | hw
      · cases u with
        | str z => rw [q.a_] at ry; obtain ⟨t', rfl⟩ := ry; exact o9 I hu hb hr hv z t'
        | _ => cases f.1
      · exact cW I hu hb hr hv f.2 t rt w hw
end
section
variable {X : Cx} {W : Addr → Prop} {io : List Addr}
theorem j8 (hu : X.A.units + 65 < cLine) {pins s sg H x y v u} {Q : VK} (I : Inv X pins sg H s) (rx : RelV x v) (ry : RelV y u) {u1 : U} {us : List U} {a : Addr} {vs : List V} (hb : nO u1 = true) (r1 : Rep X.K W io H u1 x) (hy : y = .ref a) (hq : SqL X.K H a vs ∨ SqT X.K H a vs) (hs : us.all ou = true) (rs : aq X.K W io H us vs) (q : Q (.bl false) H) :
    wpAny (model X.prog X.w) X.A (compareOp .In v u) (EP X pins sg Q) X.xe s := by
  subst hy
  cases ry
  rcases hq with hq | hq
  · obtain ⟨its, r, pl, hz⟩ := I.list hq
    refine SeqAt.in_listAt (fun _ => false) pl.isList (fun w hw => cW I (by show X.A.units + 1 < cLine; omega) hb r1 rx hs rs r w (by simpa using hw)) ⟨.bl _, H, I, rfl, ?_⟩
    rw [show its.toArray.any (fun _ => false) = false by simp]
    exact q
  · obtain ⟨its, r, pl, hz⟩ := I.tuple hq
    refine SeqAt.in_tupleAt (fun _ => false) pl (fun w hw => cW I (by show X.A.units + 1 < cLine; omega) hb r1 rx hs rs r w (by simpa using hw)) ⟨.bl _, H, I, rfl, ?_⟩
    rw [show its.toArray.any (fun _ => false) = false by simp]
    exact q
theorem jw (hu : X.A.units + 65 < cLine) {pins s sg H x y v u} {Q : VK} (I : Inv X pins sg H s) (rx : RelV x v) (ry : RelV y u) {u1 : U} {us : List U} {a : Addr} {vs : List V} (hb : nO u1 = true) (r1 : Rep X.K W io H u1 x) (hy : y = .ref a) (hq : SqL X.K H a vs ∨ SqT X.K H a vs) (hs : us.all ou = true) (rs : aq X.K W io H us vs) (q : Q (.bl true) H) :
    wpAny (model X.prog X.w) X.A (compareOp .NotIn v u) (EP X pins sg Q) X.xe s := by
  subst hy
  cases ry
  rcases hq with hq | hq
  · obtain ⟨its, r, pl, hz⟩ := I.list hq
    refine SeqAt.notIn_listAt (fun _ => false) pl.isList (fun w hw => cW I (by show X.A.units + 1 < cLine; omega) hb r1 rx hs rs r w (by simpa using hw)) ⟨.bl _, H, I, rfl, ?_⟩
    rw [show its.toArray.any (fun _ => false) = false by simp]
    exact q
  · obtain ⟨its, r, pl, hz⟩ := I.tuple hq
    refine SeqAt.notIn_tupleAt (fun _ => false) pl (fun w hw => cW I (by show X.A.units + 1 < cLine; omega) hb r1 rx hs rs r w (by simpa using hw)) ⟨.bl _, H, I, rfl, ?_⟩
    rw [show its.toArray.any (fun _ => false) = false by simp]
    exact q
end
end D
namespace D
open PySem L2
mutual
noncomputable def pd : U → PyData
  | .non => .none
  | .bl b => .bool b
  | .int i => .int i
  | .str x => .str x
  | .tup us => .tuple (pds us)
  | .lst us => .list (pds us)
  | .dct _ _ => .dict []
  | .ref _ => .dict []
  | .ty _ => .dict []
  | .scr _ => .dict []
noncomputable def pds : List U → List PyData
  | [] => []
  | u :: us => pd u :: pds us
end
mutual
theorem Rep.dp {K : PySem.W.Frag} {W : Addr → Prop} {io : List Addr} {H : Hp} : ∀ (u : U) (v : V), Rep K W io H u v → (pd u).canLay0 = true → Dp K H v (pd u)
  | .non, v, h, _ => by rw [h.cU]; exact .non
  | .bl b, v, h, _ => by rw [h.bl']; exact .bl b
  | .int i, v, h, _ => by rw [h.int']; exact .int i
  | .str x, v, h, _ => by rw [h.a_]; exact .str x
  | .tup us, v, h, c => by
    obtain ⟨a, vs, rfl, l, r⟩ := h.bH
    unfold pd
    exact .tup l.sq (aq.dp us vs r (by unfold pd PyData.canLay0 at c; exact c))
  | .lst us, v, h, c => by
    obtain ⟨a, vs, rfl, l, r⟩ := h.bz
    unfold pd
    exact .lst l.sq (aq.dp us vs r (by unfold pd PyData.canLay0 at c; exact c))
  | .dct _ _, v, h, c => by unfold pd PyData.canLay0 at c; cases c
  | .ref _, v, h, c => by unfold pd PyData.canLay0 at c; cases c
  | .ty _, v, h, c => by unfold pd PyData.canLay0 at c; cases c
  | .scr _, v, h, c => by unfold pd PyData.canLay0 at c; cases c
theorem aq.dp {K : PySem.W.Frag} {W : Addr → Prop} {io : List Addr} {H : Hp} : ∀ (us : List U) (vs : List V), aq K W io H us vs → PyData.canLayAll0 (pds us) = true → DpAll K H vs (pds us)
  | [], vs, h, _ => by rw [h.isNil]; exact .nil
  | u :: us, vs, h, c => by
    obtain ⟨v, r, rfl, q, t⟩ := h.uncons
    unfold pds PyData.canLayAll0 at c
    rw [Bool.and_eq_true] at c
    exact .cons (Rep.dp u v q c.1) (aq.dp us r t c.2)
end
noncomputable def okD (u : U) : Bool := SeqAt.shaped (pd u)
noncomputable def eqU (u v : U) : Bool := PyData.eqv (pd u) (pd v)
noncomputable def is2 : U → U → Option U
  | .non, .non => some (.bl true)
  | .bl _, .non => some (.bl false)
  | .int _, .non => some (.bl false)
  | .str _, .non => some (.bl false)
  | .tup _, .non => some (.bl false)
  | .lst _, .non => some (.bl false)
  | .dct _ _, .non => some (.bl false)
  | .ref _, .non => some (.bl false)
  | .bl a, .bl b => some (.bl (decide (a = b)))
  | _, _ => none
noncomputable def dF : U → U → Option U
  | .non, .non => some (.bl false)
  | .bl _, .non => some (.bl true)
  | .int _, .non => some (.bl true)
  | .str _, .non => some (.bl true)
  | .tup _, .non => some (.bl true)
  | .lst _, .non => some (.bl true)
  | .dct _ _, .non => some (.bl true)
  | .ref _, .non => some (.bl true)
  | .bl a, .bl b => some (.bl (!decide (a = b)))
  | _, _ => none
noncomputable def aY : U → Bool
  | .non => true
  | .bl _ => true
  | .int _ => true
  | .str _ => true
  | _ => false
noncomputable def in2 : U → U → Option U
  | .str x, .str y => if x.cps.size = 1 then some (.bl (decide (x.cps.getD 0 0 ∈ y.cps.toList))) else none
  | x, .tup ys => if aY x && ys.all aY then some (.bl (ys.any fun y => eqU y x)) else if nO x && ys.all ou then some (.bl false) else none
  | x, .lst ys => if aY x && ys.all aY then some (.bl (ys.any fun y => eqU y x)) else if nO x && ys.all ou then some (.bl false) else if okD x && okD (.lst ys) then some (.bl (ys.any fun y => eqU y x)) else none
  | _, _ => none
noncomputable def uM : U → U → Option U
  | .str x, .str y => if x.cps.size = 1 then some (.bl (!decide (x.cps.getD 0 0 ∈ y.cps.toList))) else none
  | x, .tup ys => if aY x && ys.all aY then some (.bl (!ys.any fun y => eqU y x)) else if nO x && ys.all ou then some (.bl true) else none
  | x, .lst ys => if aY x && ys.all aY then some (.bl (!ys.any fun y => eqU y x)) else if nO x && ys.all ou then some (.bl true) else if okD x && okD (.lst ys) then some (.bl (!ys.any fun y => eqU y x)) else none
  | _, _ => none
section
variable {K : PySem.W.Frag} {W : Addr → Prop} {io : List Addr} {H : Hp}
theorem fD {u : U} {v : V} (f : aY u = true) (h : Rep K W io H u v) : flatV v = true := by
  cases u with
  | non => rw [h.cU]; rfl
  | bl b => rw [h.bl']; rfl
  | int b => rw [h.int']; rfl
  | str b => rw [h.a_]; rfl
  | _ => cases f
theorem dY : ∀ {us : List U} {vs : List V}, us.all aY = true → aq K W io H us vs → vs.all flatV = true
  | [], _, _, h => by rw [h.isNil]; rfl
  | u :: us, _, f, h => by
    obtain ⟨v, r, rfl, q, t⟩ := h.uncons
    rw [List.all_cons, Bool.and_eq_true] at f
    rw [List.all_cons, fD f.1 q, dY f.2 t]; rfl
theorem eqV_rep {u w : U} {x y : V} (f : aY u = true) (f' : aY w = true) (h : Rep K W io H u x) (h' : Rep K W io H w y) : eqV x y = eqU u w := by
  cases u with
  | non =>
    rw [h.cU]
    cases w with
    | non => rw [h'.cU]; rfl
    | bl b => rw [h'.bl']; rfl
    | int b => rw [h'.int']; rfl
    | str b => rw [h'.a_]; rfl
    | _ => cases f'
  | bl a =>
    rw [h.bl']
    cases w with
    | non => rw [h'.cU]; rfl
    | bl b => rw [h'.bl']; rfl
    | int b => rw [h'.int']; rfl
    | str b => rw [h'.a_]; rfl
    | _ => cases f'
  | int a =>
    rw [h.int']
    cases w with
    | non => rw [h'.cU]; rfl
    | bl b => rw [h'.bl']; rfl
    | int b => rw [h'.int']; rfl
    | str b => rw [h'.a_]; rfl
    | _ => cases f'
  | str a =>
    rw [h.a_]
    cases w with
    | non => rw [h'.cU]; rfl
    | bl b => rw [h'.bl']; rfl
    | int b => rw [h'.int']; rfl
    | str b => rw [h'.a_]; rfl
    | _ => cases f'
  | _ => cases f
theorem gR {w : U} {y : V} (f' : aY w = true) (h' : Rep K W io H w y) : ∀ {us : List U} {vs : List V}, us.all aY = true → aq K W io H us vs → inV y vs = us.any fun u => eqU u w
  | [], _, _, h => by rw [h.isNil]; rfl
  | u :: us, _, f, h => by
    obtain ⟨v, r, rfl, q, t⟩ := h.uncons
    rw [List.all_cons, Bool.and_eq_true] at f
    have ih := gR f' h' f.2 t
    unfold inV at ih ⊢
    rw [List.any_cons, List.any_cons, eqV_rep f.1 f' q h', ih]
theorem lB {w : U} : ∀ us : List U, ((pds us).any fun z => PyData.eqv z (pd w)) = us.any fun u => eqU u w
  | [] => by unfold pds; rfl
  | u :: us => by unfold pds; rw [List.any_cons, List.any_cons, lB us]; rfl
end
section
variable {X : Cx}
theorem pO {x : Str} (h : x.cps.size = 1) : x = ⟨#[x.cps.getD 0 0]⟩ := by
  obtain ⟨⟨l⟩⟩ := x
  match l, h with
  | [c], _ => rfl
theorem o_in (hu : X.A.units + 65 < cLine) : OpR X (compareOp .In) (P2 X.K in2) := by
  intro pins s sg H x y v u Q I rx ry h
  obtain ⟨G, io, st, u1, u2, u3, ok, r1, r2, e, q⟩ := h
  unfold in2 at e
  split at e
  · split at e
    · rename_i h1
      cases e; have e1 := r1.a_; have e2 := r2.a_; subst e1; subst e2
      exact op_in_sign pins s sg H _ _ v u Q I rx ry ⟨_, _, congrArg V.str (pO h1), rfl, q _ H (Same.refl H) (rBl _)⟩
    · cases e
  · split at e
    · rename_i hf
      cases e
      rw [Bool.and_eq_true] at hf
      obtain ⟨a, vs, rfl, l, rs⟩ := r2.bH
      exact op_in_seq pins s sg H _ _ v u Q I rx ry ⟨a, vs, rfl, .inr l.sq, fD hf.1 r1, dY hf.2 rs, q _ H (Same.refl H) (by rw [gR hf.1 r1 hf.2 rs]; exact rBl _)⟩
    · split at e
      · rename_i hf
        cases e
        rw [Bool.and_eq_true] at hf
        obtain ⟨a, vs, rfl, l, rs⟩ := r2.bH
        exact j8 hu I rx ry hf.1 r1 rfl (.inr l.sq) hf.2 rs (q _ H (Same.refl H) (rBl _))
      · cases e
  · split at e
    · rename_i hf
      cases e
      rw [Bool.and_eq_true] at hf
      obtain ⟨a, vs, rfl, l, rs⟩ := r2.bz
      exact op_in_seq pins s sg H _ _ v u Q I rx ry ⟨a, vs, rfl, .inl l.sq, fD hf.1 r1, dY hf.2 rs, q _ H (Same.refl H) (by rw [gR hf.1 r1 hf.2 rs]; exact rBl _)⟩
    · split at e
      · rename_i hf
        cases e
        rw [Bool.and_eq_true] at hf
        obtain ⟨a, vs, rfl, l, rs⟩ := r2.bz
        exact j8 hu I rx ry hf.1 r1 rfl (.inl l.sq) hf.2 rs (q _ H (Same.refl H) (rBl _))
      split at e
      · rename_i ho
        cases e
        rw [Bool.and_eq_true] at ho
        refine op_inD hu pins s sg H _ _ v u Q I rx ry ⟨pd u1, _, r1.dp _ _ (SeqAt.canLay_of_shaped ho.1), r2.dp _ _ (SeqAt.canLay_of_shaped ho.2), ho.1, ho.2, q _ H (Same.refl H) ?_⟩
        rw [lB]; exact rBl _
      · cases e
  · cases e
theorem o_nin (hu : X.A.units + 65 < cLine) : OpR X (compareOp .NotIn) (P2 X.K uM) := by
  intro pins s sg H x y v u Q I rx ry h
  obtain ⟨G, io, st, u1, u2, u3, ok, r1, r2, e, q⟩ := h
  unfold uM at e
  split at e
  · split at e
    · rename_i h1
      cases e; have e1 := r1.a_; have e2 := r2.a_; subst e1; subst e2
      exact op_notIn_sign pins s sg H _ _ v u Q I rx ry ⟨_, _, congrArg V.str (pO h1), rfl, q _ H (Same.refl H) (rBl _)⟩
    · cases e
  · split at e
    · rename_i hf
      cases e
      rw [Bool.and_eq_true] at hf
      obtain ⟨a, vs, rfl, l, rs⟩ := r2.bH
      exact op_notIn_seq pins s sg H _ _ v u Q I rx ry ⟨a, vs, rfl, .inr l.sq, fD hf.1 r1, dY hf.2 rs, q _ H (Same.refl H) (by rw [gR hf.1 r1 hf.2 rs]; exact rBl _)⟩
    · split at e
      · rename_i hf
        cases e
        rw [Bool.and_eq_true] at hf
        obtain ⟨a, vs, rfl, l, rs⟩ := r2.bH
        exact jw hu I rx ry hf.1 r1 rfl (.inr l.sq) hf.2 rs (q _ H (Same.refl H) (rBl _))
      · cases e
  · split at e
    · rename_i hf
      cases e
      rw [Bool.and_eq_true] at hf
      obtain ⟨a, vs, rfl, l, rs⟩ := r2.bz
      exact op_notIn_seq pins s sg H _ _ v u Q I rx ry ⟨a, vs, rfl, .inl l.sq, fD hf.1 r1, dY hf.2 rs, q _ H (Same.refl H) (by rw [gR hf.1 r1 hf.2 rs]; exact rBl _)⟩
    · split at e
      · rename_i hf
        cases e
        rw [Bool.and_eq_true] at hf
        obtain ⟨a, vs, rfl, l, rs⟩ := r2.bz
        exact jw hu I rx ry hf.1 r1 rfl (.inl l.sq) hf.2 rs (q _ H (Same.refl H) (rBl _))
      split at e
      · rename_i ho
        cases e
        rw [Bool.and_eq_true] at ho
        refine op_notInD hu pins s sg H _ _ v u Q I rx ry ⟨pd u1, _, r1.dp _ _ (SeqAt.canLay_of_shaped ho.1), r2.dp _ _ (SeqAt.canLay_of_shaped ho.2), ho.1, ho.2, q _ H (Same.refl H) ?_⟩
        rw [lB]; exact rBl _
      · cases e
  · cases e
end
noncomputable def ix2 : U → U → Option U
  | .lst us, .int i => atI us i
  | .tup us, .int i => atI us i
  | .scr ns, .int i => (atI ns i).map U.int
  | .str x, .int i => if x.length ≤ sizeLine then (atI x.cps.toList i).map fun c => .str ⟨#[c]⟩ else none
  | _, _ => none
theorem qT {A B : Type} (f : A → B) {l : List A} {i : Int} {x : A} (h : atI l i = some x) : atI (l.map f) i = some (f x) := by
  unfold atI at h ⊢
  rw [List.length_map]
  cases q : ixN l.length i with
  | none => rw [q] at h; cases h
  | some j =>
    rw [q] at h
    have h : l[j]? = some x := h
    show (l.map f)[j]? = some (f x)
    rw [List.getElem?_map, h]; rfl
theorem qR {K : PySem.W.Frag} {W : Addr → Prop} {io : List Addr} {H : Hp} {us : List U} {vs : List V} (r : aq K W io H us vs) {i : Int} {u : U} (h : atI us i = some u) : ∃ v, atI vs i = some v ∧ Rep K W io H u v := by
  unfold atI at h ⊢
  rw [← r.length]
  cases q : ixN us.length i with
  | none => rw [q] at h; cases h
  | some j =>
    rw [q] at h
    obtain ⟨v, h1, h2⟩ := r.get (i := j) (u := u) h
    exact ⟨v, h1, h2⟩
section
variable {X : Cx} {xs : XS} {wx : WX} {pos : Pos}
theorem o_ix : IxR X (P2 X.K ix2) := by
  intro value slice pins s sg H x y v u Q I rx ry h hs
  obtain ⟨G, io, st, u1, u2, u3, ok, r1, r2, e, q⟩ := h
  unfold ix2 at e
  split at e
  · have e2 := r2.int'; subst e2
    obtain ⟨a, vs, rfl, l, rs⟩ := r1.bz
    obtain ⟨w, h1, h2⟩ := qR rs e
    exact ix_list value slice pins s sg H _ _ v u Q I rx ry ⟨a, vs, _, w, rfl, rfl, l.sq, h1, q _ H (Same.refl H) h2⟩ hs
  · have e2 := r2.int'; subst e2
    obtain ⟨a, vs, rfl, l, rs⟩ := r1.bH
    obtain ⟨w, h1, h2⟩ := qR rs e
    exact ix_tup value slice pins s sg H _ _ v u Q I rx ry ⟨a, vs, _, w, rfl, rfl, l.sq, h1, q _ H (Same.refl H) h2⟩ hs
  · have e2 := r2.int'; subst e2
    rw [Option.map_eq_some_iff] at e
    obtain ⟨n, hn, rfl⟩ := e
    unfold Rep at r1
    obtain ⟨a, rfl, l⟩ := r1
    have h1 := qT V.int hn
    exact ix_list value slice pins s sg H _ _ v u Q I rx ry ⟨a, _, _, _, rfl, rfl, l.sq, h1, q _ H (Same.refl H) (dJ _)⟩ hs
  · split at e
    · rename_i hz
      have e1 := r1.a_; have e2 := r2.int'; subst e1; subst e2
      rw [Option.map_eq_some_iff] at e
      obtain ⟨c, hc, rfl⟩ := e
      exact ix_str value slice pins s sg H _ _ v u Q I rx ry ⟨_, _, c, rfl, rfl, hz, hc, q _ H (Same.refl H) (rStr _)⟩ hs
    · cases e
  · cases e
theorem d_ix {a b : Expr} {f g : DE} (ha : PE X a (tD X.K xs wx f)) (hb : PE X b (tD X.K xs wx g)) (hs : PlainIx b) : PE X (.Subscript a b pos) (tD X.K xs wx (bin ix2 f g)) := aW (pe_ix o_ix ha hb hs) fun _ _ _ h => h_ h
noncomputable def bx {A : Type} (l : List A) (lo hi : Option Int) : List A := (l.drop (HT.sIx l.length 0 lo)).take (HT.sIx l.length l.length hi - HT.sIx l.length 0 lo)
noncomputable def sl3 (u : U) (lo hi : Option Int) : Option U := match u with
  | .lst us => some (.lst (bx us lo hi))
  | .tup us => some (.tup (bx us lo hi))
  | .scr ns => some (.lst ((bx ns lo hi).map U.int))
  | .str x => if x.length ≤ sizeLine then some (.str (cutS x lo hi)) else none
  | _ => none
noncomputable abbrev DO := Env → Store → Rs (Option Int)
noncomputable def noO : DO := fun _ st => .ok none st
noncomputable def soO (f : DE) : DO := fun env st => (f env st).bind fun u st1 => match u with
  | .int i => .ok (some i) st1
  | _ => .bad
noncomputable def slD (f : DE) (a b : DO) : DE := fun env st => (f env st).bind fun u st1 => (a env st1).bind fun lo st2 => (b env st2).bind fun hi st3 => Rs.of (sl3 u lo hi) st3
noncomputable def tDO (K : PySem.W.Frag) (xs : XS) (wx : WX) (f : DO) : TO := fun sg H Q => ∃ G io st env, Ok K G io st H ∧ aK K G io H env sg ∧
  aM K G io H (fun _ _ H' o => Q o H') (XW xs wx sg) (f env st)
theorem uo {e : Option Expr} {t t' : TO} (h : PO X e t) (f : ∀ sg H Q, t' sg H Q → t sg H Q) : PO X e t' := ⟨fun pins s sg H Q I q => h.run pins s sg H Q I (f sg H Q q)⟩
theorem pW : PO X none (tDO X.K xs wx noO) := uo po_none fun sg H Q h => by
  obtain ⟨G, io, st, env, ok, er, w⟩ := h
  exact w.here ok
theorem jm {e : Expr} {f : DE} (h : PE X e (tD X.K xs wx f)) : PO X (some e) (tDO X.K xs wx (soO f)) := uo (po_some h) fun sg H Q q => by
  obtain ⟨G, io, st, env, ok, er, w⟩ := q
  refine ⟨G, io, st, env, ok, er, w.bind.aX fun st1 io1 H1 u ok1 e1 w1 v rv => ?_⟩
  cases u with
  | int i => exact ⟨i, rv.int', w1.here ok1⟩
  | _ => exact w1.elim
noncomputable def P3 (K : PySem.W.Frag) : V → Option Int → Option Int → Hp → VK → Prop := fun x lo hi H Q => ∃ G io st u1 u, Ok K G io st H ∧ Rep K (Wf G io) io H u1 x ∧ sl3 u1 lo hi = some u ∧ ∀ v H', Same H H' → Rep K (Wf G io) io H' u v → Q v H'
theorem o_sl : SlR X (P3 X.K) := by
  intro pins s sg H x v vl vu lo hi sl Q I rx hs pl pu h
  obtain ⟨G, io, st, u1, u3, ok, r1, e, q⟩ := h
  unfold sl3 at e
  split at e
  · cases e
    obtain ⟨a, vs, rfl, l, rs⟩ := r1.bz
    refine sl_list pins s sg H _ v vl vu lo hi sl Q I rx hs pl pu ⟨a, vs, rfl, l.sq, fun p hp => q _ _ (aO hp) (ok.bO hp ?_)⟩
    unfold bx cutV
    rw [rs.length]
    exact (rs.drop _).take _
  · cases e
    obtain ⟨a, vs, rfl, l, rs⟩ := r1.bH
    refine sl_tupA pins s sg H _ v vl vu lo hi sl Q I rx hs pl pu ⟨a, vs, rfl, l.sq, fun w => q _ H (Same.refl H) ?_, fun _ p hp => q _ _ (aO hp) (ok.uO hp ?_)⟩
    · unfold bx
      rw [rs.length, w.1, w.2, List.drop_zero, Nat.sub_zero, ← rs.length, List.take_length]
      exact rTup l rs
    · unfold bx cutV
      rw [rs.length]
      exact (rs.drop _).take _
  · cases e
    unfold Rep at r1
    obtain ⟨a, rfl, l⟩ := r1
    refine sl_list pins s sg H _ v vl vu lo hi sl Q I rx hs pl pu ⟨a, _, rfl, l.sq, fun p hp => q _ _ (aO hp) (ok.bO hp ?_)⟩
    unfold bx cutV
    rw [List.length_map, List.map_take, List.map_drop]
    exact ((aq.ints _).drop _).take _
  · split at e
    · rename_i hz
      cases e; have e1 := r1.a_; subst e1
      exact sl_str pins s sg H _ v vl vu lo hi sl Q I rx hs pl pu ⟨_, rfl, hz, q _ H (Same.refl H) (rStr _)⟩
    · cases e
  · cases e
theorem lO {e : Expr} {lo hi : Option Expr} {p2 : Pos} {f : DE} {a b : DO} (he : PE X e (tD X.K xs wx f)) (hl : PO X lo (tDO X.K xs wx a)) (hu : PO X hi (tDO X.K xs wx b)) : PE X (.Subscript e (.Slice lo hi none p2) pos) (tD X.K xs wx (slD f a b)) :=
  aW (pe_slice o_sl he hl hu) fun sg H Q h => by
    obtain ⟨G, io, st, env, ok, er, w⟩ := h
    refine ⟨G, io, st, env, ok, er, w.bind.aX fun st1 io1 H1 u ok1 e1 w1 v rv => ?_⟩
    refine ⟨G, io1, st1, env, ok1, er.ext ok.dj e1, w1.bind.aX fun st2 io2 H2 l ok2 e2 w2 => ?_⟩
    refine ⟨G, io2, st2, env, ok2, (er.ext ok.dj e1).ext ok1.dj e2, w2.bind.aX fun st3 io3 H3 h ok3 e3 w3 => ?_⟩
    obtain ⟨r, hr, w4⟩ := w3.pure
    exact ⟨G, io3, st3, u, r, ok3, (rv.ext e2).ext e3, hr, fun v' H' s r' => w4.nq ok3 s v' r'⟩
end
end D
namespace D
open PySem L2
noncomputable def gJ : List U → Option U
  | [.lst us] => some (.int us.length)
  | [.tup us] => some (.int us.length)
  | [.scr us] => some (.int us.length)
  | [.str x] => if x.length ≤ sizeLine then some (.int x.length) else none
  | _ => none
noncomputable def tyU : U → Option String
  | .non => some "NoneType"
  | .bl _ => some "bool"
  | .int _ => some "int"
  | .str _ => some "str"
  | .tup _ => some "tuple"
  | .lst _ => some "list"
  | .dct _ _ => some "dict"
  | .scr _ => some "list"
  | _ => none
noncomputable def isB (a b : String) : Bool := a == b || (a == "bool" && b == "int")
noncomputable def pM : List String := ["str", "int", "bool", "tuple", "list", "dict"]
theorem isB_ok : ∀ a ∈ ["NoneType", "bool", "int", "str", "tuple", "list", "dict"], ∀ b ∈ pM, kitB a b = some (isB a b) := by decide +kernel
noncomputable def aP : List U → Option U
  | [u, .ty c] => if c ∈ pM then (tyU u).map fun t => .bl (isB t c) else none
  | _ => none
theorem tyU_mem {u : U} {t : String} (h : tyU u = some t) : t ∈ ["NoneType", "bool", "int", "str", "tuple", "list", "dict"] := by
  cases u <;> first | (cases h; decide) | cases h
noncomputable def rZ : List U → Option U
  | [.int i, .int j] => some (.int (if j > i then j else i))
  | _ => none
noncomputable def rY : List U → Option U
  | [.int i, .int j] => some (.int (if j < i then j else i))
  | _ => none
noncomputable def jN : List U → Option (List Bool)
  | [] => some []
  | .bl b :: us => (jN us).map (b :: ·)
  | _ => none
noncomputable def cV : List U → Option (List Int)
  | [] => some []
  | .int b :: us => (cV us).map (b :: ·)
  | _ => none
noncomputable def bB : List U → Option (List Str)
  | [] => some []
  | .str b :: us => (bB us).map (b :: ·)
  | _ => none
theorem qw : ∀ {us : List U} {bs : List Int}, cV us = some bs → us = bs.map U.int
  | [], _, h => by cases h; rfl
  | .int b :: us, _, h => by
    unfold cV at h
    rw [Option.map_eq_some_iff] at h
    obtain ⟨r, h1, rfl⟩ := h
    rw [qw h1]; rfl
  | .non :: _, _, h => by unfold cV at h; cases h
  | .bl _ :: _, _, h => by unfold cV at h; cases h
  | .str _ :: _, _, h => by unfold cV at h; cases h
  | .tup _ :: _, _, h => by unfold cV at h; cases h
  | .lst _ :: _, _, h => by unfold cV at h; cases h
  | .dct _ _ :: _, _, h => by unfold cV at h; cases h
  | .ref _ :: _, _, h => by unfold cV at h; cases h
  | .ty _ :: _, _, h => by unfold cV at h; cases h
  | .scr _ :: _, _, h => by unfold cV at h; cases h
theorem gK : ∀ {us : List U} {bs : List Str}, bB us = some bs → us = bs.map U.str
  | [], _, h => by cases h; rfl
  | .str b :: us, _, h => by
    unfold bB at h
    rw [Option.map_eq_some_iff] at h
    obtain ⟨r, h1, rfl⟩ := h
    rw [gK h1]; rfl
  | .non :: _, _, h => by unfold bB at h; cases h
  | .bl _ :: _, _, h => by unfold bB at h; cases h
  | .int _ :: _, _, h => by unfold bB at h; cases h
  | .tup _ :: _, _, h => by unfold bB at h; cases h
  | .lst _ :: _, _, h => by unfold bB at h; cases h
  | .dct _ _ :: _, _, h => by unfold bB at h; cases h
  | .ref _ :: _, _, h => by unfold bB at h; cases h
  | .ty _ :: _, _, h => by unfold bB at h; cases h
  | .scr _ :: _, _, h => by unfold bB at h; cases h
theorem strs_map (bs : List Str) : bB (bs.map U.str) = some bs := by
  induction bs with
  | nil => rfl
  | cons b bs ih => rw [List.map_cons]; unfold bB; rw [ih]; rfl
noncomputable def tR : List U → Option U
  | [.lst us] => (cV us).map fun bs => .int bs.sum
  | [.scr ns] => some (.int ns.sum)
  | _ => none
noncomputable def eU : List U → Option U
  | [.lst us] => some (.tup us)
  | [.tup us] => some (.tup us)
  | _ => none
noncomputable def sG : List U → Option U
  | [.int i] => some (.int i)
  | [.bl k] => some (.int (if k then 1 else 0))
  | _ => none
section
variable {K : PySem.W.Frag} {W : Addr → Prop} {io : List Addr} {H : Hp}
theorem aq.one {u : U} {vs : List V} (h : aq K W io H [u] vs) : ∃ v, vs = [v] ∧ Rep K W io H u v := by
  obtain ⟨v, r, rfl, q, t⟩ := h.uncons
  rw [t.isNil]; exact ⟨v, rfl, q⟩
theorem aq.two {u w : U} {vs : List V} (h : aq K W io H [u, w] vs) : ∃ v x, vs = [v, x] ∧ Rep K W io H u v ∧ Rep K W io H w x := by
  obtain ⟨v, r, rfl, q, t⟩ := h.uncons
  obtain ⟨x, rfl, q'⟩ := t.one
  exact ⟨v, x, rfl, q, q'⟩
theorem Rep.scr' {ns : List Int} {v : V} (h : Rep K W io H (.scr ns) v) : ∃ a, v = .ref a ∧ LS K W H a (ns.map V.int) := by unfold Rep at h; exact h
theorem Rep.dct' {ks us : List U} {v : V} (h : Rep K W io H (.dct ks us) v) : ∃ a vs, v = .ref a ∧ LD W H a ks vs ∧ aq K W io H us vs := by unfold Rep at h; exact h
theorem Rep.ty' {n : String} {v : V} (h : Rep K W io H (.ty n) v) : v = .ty n := by unfold Rep at h; exact h
theorem tyX {u : U} {v : V} {t : String} (h : Rep K W io H u v) (e : tyU u = some t) : TyX K H v (.type t) := by
  cases u with
  | non => cases e; rw [h.cU]; exact .base .non
  | bl b => cases e; rw [h.bl']; exact .base (.bl b)
  | int b => cases e; rw [h.int']; exact .base (.int b)
  | str b => cases e; rw [h.a_]; exact .base (.str b)
  | tup us =>
    cases e
    obtain ⟨a, vs, rfl, l, _⟩ := h.bH
    rcases l with ⟨l | ⟨o, l⟩, _⟩ | ⟨o, its, n, l, c, _⟩
    · exact .base (.tup l)
    · exact .fTuple l
    · exact .kTuple l c
  | lst us =>
    cases e
    obtain ⟨a, vs, rfl, l, _⟩ := h.bz
    exact .base (.lst l.1)
  | dct ks us =>
    cases e
    obtain ⟨a, vs, rfl, ⟨_, ⟨kvs, l | ⟨o, l⟩, _⟩ | ⟨kvs, l, _⟩⟩, _⟩ := h.dct'
    · exact .base (.dK l)
    · exact .fDict l
    · exact .base (.dT l)
  | scr ns =>
    cases e
    obtain ⟨a, rfl, l⟩ := h.scr'
    rcases l with ⟨l | ⟨o, l⟩, _⟩ | ⟨o, its, n, l, c, _⟩
    · exact .base (.lst l)
    · exact .base (.frz l)
    · exact .kList l c
  | _ => cases e
end
section
variable {X : Cx}
theorem vP : CallR X (.builtin "len") (PN X.K gJ) := by
  intro pins s sg H vs us Q I r h
  obtain ⟨G, io, st, ws, u, ok, rs, e, q⟩ := h
  unfold gJ at e
  split at e
  · cases e
    obtain ⟨v, rfl, rv⟩ := rs.one
    obtain ⟨a, xs, rfl, l, r'⟩ := rv.bz
    exact call_len_seq pins s sg H _ us Q I r ⟨a, xs, rfl, .inl l.sq, q _ H (Same.refl H) (by rw [r'.length]; exact dJ _)⟩
  · cases e
    obtain ⟨v, rfl, rv⟩ := rs.one
    obtain ⟨a, xs, rfl, l, r'⟩ := rv.bH
    exact call_len_seq pins s sg H _ us Q I r ⟨a, xs, rfl, .inr l.sq, q _ H (Same.refl H) (by rw [r'.length]; exact dJ _)⟩
  · cases e
    obtain ⟨v, rfl, rv⟩ := rs.one
    obtain ⟨a, rfl, l⟩ := rv.scr'
    exact call_len_seq pins s sg H _ us Q I r ⟨a, _, rfl, .inl l.sq, q _ H (Same.refl H) (by rw [List.length_map]; exact dJ _)⟩
  · split at e
    · rename_i hz
      cases e
      obtain ⟨v, rfl, rv⟩ := rs.one
      have e1 := rv.a_; subst e1
      exact call_len_str pins s sg H _ us Q I r ⟨_, rfl, hz, q _ H (Same.refl H) (dJ _)⟩
    · cases e
  · cases e
theorem c_isi : CallR X (.builtin "isinstance") (PN X.K aP) := by
  intro pins s sg H vs us Q I r h
  obtain ⟨G, io, st, ws, u, ok, rs, e, q⟩ := h
  unfold aP at e
  split at e
  · rename_i w c
    split at e
    · rename_i hc
      rw [Option.map_eq_some_iff] at e
      obtain ⟨t, ht, rfl⟩ := e
      obtain ⟨v, x, rfl, rv, rx⟩ := rs.two
      have e1 := rx.ty'; subst e1
      exact call_isi pins s sg H _ us Q I r ⟨v, .ty c, .type t, .type c, isB t c, rfl, .ty c, tyX rv ht, kit_ty (isB_ok t (tyU_mem ht) c hc), q _ H (Same.refl H) (rBl _)⟩
    · cases e
  · cases e
theorem c_max (hc : X.calm = true) : CallR X (.builtin "max") (PN X.K rZ) := by
  intro pins s sg H vs us Q I r h
  obtain ⟨G, io, st, ws, u, ok, rs, e, q⟩ := h
  unfold rZ at e
  split at e
  · cases e
    obtain ⟨v, x, rfl, rv, rx⟩ := rs.two
    have e1 := rv.int'; have e2 := rx.int'; subst e1; subst e2
    exact call_max2 hc pins s sg H _ us Q I r ⟨_, _, rfl, q _ H (Same.refl H) (dJ _)⟩
  · cases e
theorem c_min (hc : X.calm = true) : CallR X (.builtin "min") (PN X.K rY) := by
  intro pins s sg H vs us Q I r h
  obtain ⟨G, io, st, ws, u, ok, rs, e, q⟩ := h
  unfold rY at e
  split at e
  · cases e
    obtain ⟨v, x, rfl, rv, rx⟩ := rs.two
    have e1 := rv.int'; have e2 := rx.int'; subst e1; subst e2
    exact call_min2 hc pins s sg H _ us Q I r ⟨_, _, rfl, q _ H (Same.refl H) (dJ _)⟩
  · cases e
theorem c_sum (hc : X.calm = true) : CallR X (.builtin "sum") (PN X.K tR) := by
  intro pins s sg H vs us Q I r h
  obtain ⟨G, io, st, ws, u, ok, rs, e, q⟩ := h
  unfold tR at e
  split at e
  · rw [Option.map_eq_some_iff] at e
    obtain ⟨bs, hb, rfl⟩ := e
    obtain ⟨v, rfl, rv⟩ := rs.one
    obtain ⟨a, xs, rfl, l, r'⟩ := rv.bz
    rw [qw hb] at r'
    have e1 := aq.ofInts r'; subst e1
    exact cr_sum hc pins s sg H _ us Q I r ⟨a, bs, rfl, l.sq, q _ H (Same.refl H) (dJ _)⟩
  · cases e
    obtain ⟨v, rfl, rv⟩ := rs.one
    obtain ⟨a, rfl, l⟩ := rv.scr'
    exact cr_sum hc pins s sg H _ us Q I r ⟨a, _, rfl, l.sq, q _ H (Same.refl H) (dJ _)⟩
  · cases e
theorem qQ : CallR X (.type "tuple") (PN X.K eU) := by
  intro pins s sg H vs us Q I r h
  obtain ⟨G, io, st, ws, u, ok, rs, e, q⟩ := h
  unfold eU at e
  split at e
  · cases e
    obtain ⟨v, rfl, rv⟩ := rs.one
    obtain ⟨a, xs, rfl, l, r'⟩ := rv.bz
    exact call_tuple_of pins s sg H _ us Q I r ⟨a, xs, rfl, .inl ⟨l.sq, fun p hp => q _ _ (aO hp) (ok.uO hp r')⟩⟩
  · cases e
    obtain ⟨v, rfl, rv⟩ := rs.one
    obtain ⟨a, xs, rfl, l, r'⟩ := rv.bH
    exact call_tuple_of pins s sg H _ us Q I r ⟨a, xs, rfl, .inr ⟨l.sq, q _ H (Same.refl H) (rTup l r')⟩⟩
  · cases e
theorem c_int : CallR X (.type "int") (PN X.K sG) := by
  intro pins s sg H vs us Q I r h
  obtain ⟨G, io, st, ws, u, ok, rs, e, q⟩ := h
  unfold sG at e
  split at e
  · cases e
    obtain ⟨v, rfl, rv⟩ := rs.one
    have e1 := rv.int'; subst e1
    exact call_int1 pins s sg H _ us Q I r (.inl ⟨_, rfl, q _ H (Same.refl H) (dJ _)⟩)
  · cases e
    obtain ⟨v, rfl, rv⟩ := rs.one
    have e1 := rv.bl'; subst e1
    exact call_int1 pins s sg H _ us Q I r (.inr ⟨_, rfl, q _ H (Same.refl H) (dJ _)⟩)
  · cases e
noncomputable def lstL : List U → Option (List U)
  | [.lst us] => some us
  | [.tup us] => some us
  | [.scr ns] => some (ns.map U.int)
  | _ => none
variable {xs : XS} {wx : WX} {pos : Pos}
end
structure Fn (P : Program) (w : World) (K : PySem.W.Frag) (mg : Str → Option Value) (base : Heap) (xs : XS) (x : Str) (k n : Nat) (g : List U → Store → Rs U) : Prop where
  ex : ∃ f fd ps, mg x = some (.ref f) ∧ PySem.W.keepIn K (.ref f) = true ∧ Binds K fd ps [] ∧ FnOk P w K mg base (L2.CX P w) k f fd ps (spD K xs n g)
  bad : ∀ us st, us.length ≠ n → g us st = .bad
theorem Fn.imp {P : Program} {w : World} {K : PySem.W.Frag} {mg : Str → Option Value} {base : Heap} {xs : XS} {x : Str} {k n : Nat} {g g' : List U → Store → Rs U} (h : Fn P w K mg base xs x k n g) (e : ∀ us st, g' us st ≠ .bad → g us st = g' us st) (hb : ∀ us st, us.length ≠ n → g' us st = .bad) : Fn P w K mg base xs x k n g' := by
  obtain ⟨⟨f, fd, ps, h1, h2, h3, h4⟩, h5⟩ := h
  refine ⟨⟨f, fd, ps, h1, h2, h3, h4.imp fun vs H Q E q => ?_⟩, hb⟩
  obtain ⟨hl, G, io, st, us, ok, r, w⟩ := q
  refine ⟨hl, G, io, st, us, ok, r, ?_⟩
  rw [e us st (Rs.of_bad w)]
  exact w
section
variable {X : Cx} {xs : XS} {wx : WX} {pos : Pos}
theorem bF {k n : Nat} {x : Str} {p : Pos} {e : Expr} {es : List Expr} {g : List U → Store → Rs U} {fa : DA} (F : Fn X.prog X.w X.K X.mg X.base xs x k n g) (tk : Takes X wx) (hr : Room k X.A) (hg : Gl X x)
    (ha : PA X (e :: es) (tDA X.K xs wx fa)) (hdb : (x == ("__debug__" : Str)) = false := by decide)
    (he : starEach (e :: es) X.env = (false, eval e X.env) :: starEach es X.env := by rfl) (hpl : (backTo pos (starEach es X.env)).any (·.1) = false := by rfl) : PE X (.Call (.Name x p) (e :: es) [] pos) (tD X.K xs wx (bo g fa)) := by
  obtain ⟨⟨f, fd, ps, h1, h2, h3, h4⟩, h5⟩ := F
  exact d_call tk h4 hr hg h1 h2 h3 h5 ha hdb he hpl
theorem gU {i : Nat} {vs : List Nat} (h : i ∈ vs) : ∀ u l, tgN i u = some l → ∀ p ∈ l, p.1 ∈ vs := fun u l e p hp => by
  cases e
  have : p = (i, u) := by simpa using hp
  subst this; exact h
theorem hvs_T {is vs : List Nat} (h : ∀ i ∈ is, i ∈ vs) : ∀ u l, tgT is u = some l → ∀ p ∈ l, p.1 ∈ vs := fun u l e p hp => by
  unfold tgT at e
  split at e
  · split at e
    · cases e
      exact h _ (List.of_mem_zip hp).1
    · cases e
  · cases e
theorem d_ty {x : Str} {n : String} {p : Pos} (hg : Gl X x) (hm : X.mg x = none) (hv : bootBuiltins x = some (.type n)) (hn : x ≠ "__name__" := by decide) (hd : (x == ("__debug__" : Str)) = false := by decide) : PE X (.Name x p) (tD X.K xs wx (cst (.ty n))) :=
  qP (pe_bltn hg hm hv (v := .ty n) rfl hn hd) fun _ _ _ => by unfold Rep; rfl
noncomputable def neg1D (f : DE) : DE := fun env st => (f env st).bind fun u st1 => Rs.of (neg1 u) st1
noncomputable def kOf : U → Option Key
  | .int i => some (.inl i)
  | .str x => some (.inr x)
  | _ => none
noncomputable def rJ {A : Type} (kvs : List (Key × A)) (k : Key) (v : A) : List (Key × A) := if (kvs.any fun kv => decide (kv.1 = k)) = true then kvs.map (fun kv => if kv.1 = k then (kv.1, v) else kv) else kvs ++ [(k, v)]
noncomputable def jC {A : Type} (kvs more : List (Key × A)) : List (Key × A) := more.foldl (fun acc kv => rJ acc kv.1 kv.2) kvs
noncomputable def mkD (kvs : List (Key × U)) : U := .dct (kvs.map fun p => kU p.1) (kvs.map (·.2))
noncomputable def keyed : List (U × U) → Option (List (Key × U))
  | [] => some []
  | p :: r => match kOf p.1, keyed r with
    | some k, some l => some ((k, p.2) :: l)
    | _, _ => none
noncomputable def dispU (l : List (U × U)) : Option U := (keyed l).bind fun kvs => if kvs.length ≤ 15 then some (mkD (jC [] kvs)) else none
noncomputable def ju : List (DE × DE) → Env → Store → Rs (List (U × U))
  | [], _, st => .ok [] st
  | p :: r, env, st => (p.1 env st).bind fun k st1 => (p.2 env st1).bind fun v st2 => (ju r env st2).bind fun l st3 => .ok ((k, v) :: l) st3
noncomputable def dispD (ps : List (DE × DE)) : DE := fun env st => (dD (ju ps env st)).bind fun l st1 => Rs.of (dispU l) st1
noncomputable def KR (K : PySem.W.Frag) (W : Addr → Prop) (io : List Addr) (H : Hp) : List (Key × U) → List (Key × V) → Prop := Paired fun p q => p.1 = q.1 ∧ Rep K W io H p.2 q.2
section
variable {K : PySem.W.Frag} {W : Addr → Prop} {io : List Addr} {H : Hp}
theorem KR.any {k : Key} : ∀ {a : List (Key × U)} {b : List (Key × V)}, KR K W io H a b → (a.any fun kv => decide (kv.1 = k)) = (b.any fun kv => decide (kv.1 = k))
  | _, _, .nil => rfl
  | _, _, .cons h t => by rw [List.any_cons, List.any_cons, KR.any t, h.1]
theorem KR.app : ∀ {a a' : List (Key × U)} {b b' : List (Key × V)}, KR K W io H a b → KR K W io H a' b' → KR K W io H (a ++ a') (b ++ b')
  | _, _, _, _, .nil, h => h
  | _, _, _, _, .cons h t, h' => .cons h (KR.app t h')
theorem KR.upd {k : Key} {u : U} {v : V} (r : Rep K W io H u v) : ∀ {a : List (Key × U)} {b : List (Key × V)}, KR K W io H a b → KR K W io H (a.map (fun kv => if kv.1 = k then (kv.1, u) else kv)) (b.map (fun kv => if kv.1 = k then (kv.1, v) else kv))
  | _, _, .nil => .nil
  | _, _, .cons h t => by
    rw [List.map_cons, List.map_cons]
    refine .cons ?_ (KR.upd r t)
    obtain ⟨h1, h2⟩ := h
    rw [h1]
    split
    · exact ⟨rfl, r⟩
    · exact ⟨h1, h2⟩
theorem KR.put {a : List (Key × U)} {b : List (Key × V)} (h : KR K W io H a b) {k : Key} {u : U} {v : V} (r : Rep K W io H u v) : KR K W io H (rJ a k u) (putK b k v) := by
  unfold rJ putK
  rw [h.any]
  split
  · exact h.upd r
  · exact h.app (.cons ⟨rfl, r⟩ .nil)
theorem KR.len : ∀ {a : List (Key × U)} {b : List (Key × V)}, KR K W io H a b → a.length = b.length
  | _, _, .nil => rfl
  | _, _, .cons _ t => by simp [KR.len t]
end
end
theorem pC : bootBuiltins "len" = some (.builtin "len") := by decide +kernel
theorem gh : bootBuiltins "isinstance" = some (.builtin "isinstance") := by decide +kernel
theorem bt_max : bootBuiltins "max" = some (.builtin "max") := by decide +kernel
theorem bt_min : bootBuiltins "min" = some (.builtin "min") := by decide +kernel
theorem bt_sum : bootBuiltins "sum" = some (.builtin "sum") := by decide +kernel
theorem kE : bootBuiltins "sorted" = some (.builtin "sorted") := by decide +kernel
theorem g_ : bootBuiltins "tuple" = some (.type "tuple") := by decide +kernel
theorem vQ : bootBuiltins "int" = some (.type "int") := by decide +kernel
theorem bt_bool : bootBuiltins "bool" = some (.type "bool") := by decide +kernel
theorem u65 {k : Nat} {A : Around} (hr : Room k A) : A.units + 65 < cLine := by have := hr.un; omega
section
variable {X : Cx} {xs : XS} {wx : WX} {pos : Pos}
theorem dv (i : Nat) {x : Str} (hN : X.N[i]? = some x := by rfl) (hv : Vis X.env.scope x := by first | exact Or.inl rfl | exact Or.inr (Or.inl rfl) | exact Or.inr (Or.inr rfl)) (hd : (x == ("__debug__" : Str)) = false := by decide) (hcd : (x == ("__classdict__" : Str)) = false := by decide) :
    PE X (.Name x pos) (tD X.K xs wx (var i)) := d_var i hN hv hd hcd
theorem gn (i : Nat) {x : Str} (hN : X.N.Nodup) (hi : X.N[i]? = some x := by rfl) (hx : Loc X.env.scope x := by first | exact Or.inl rfl | exact Or.inr rfl) (hf : X.fn x = true ∨ X.env.scope.names.lookup x = some .local := by first | exact .inl rfl | exact .inr rfl) : PG X (.Name x pos) (gD X.K (tgN i)) := g_name hN hi hx hf
theorem gc {x : Str} {p : Pos} (i : Nat) {es : List Expr} {is : List Nat} (t : dR X es is) (hi : X.N[i]? = some x := by rfl) (hx : Loc X.env.scope x := by first | exact Or.inl rfl | exact Or.inr rfl) (hf : X.fn x = true ∨ X.env.scope.names.lookup x = some .local := by first | exact .inl rfl | exact .inr rfl) : dR X (.Name x p :: es) (i :: is) := .cons hi hx hf t
theorem sset (i : Nat) {x : Str} {e : Expr} {f : DE} {pos' : Pos} (hN : X.N.Nodup) (he : PE X e (tD X.K xs wx f)) (hi : X.N[i]? = some x := by rfl) (hx : Loc X.env.scope x := by first | exact Or.inl rfl | exact Or.inr rfl) (hs : swapsWith e (some (.Name x pos')) pos.line X.env = Pure.pure false := by rfl)
    (hf : X.fn x = true ∨ X.env.scope.names.lookup x = some .local := by first | exact .inl rfl | exact .inr rfl) : PS X (.Assign [.Name x pos'] e pos) (tDS X.K xs wx (bh i f)) := s_set hN hi hx he hs hf
noncomputable def frz1 (s : Sl) : Sl := match s with
  | .own us => .val (.lst us)
  | s => s
noncomputable def frzE (i : Nat) (env : Env) : Env := match env[i]? with
  | some s => env.set i (frz1 s)
  | none => env
noncomputable def frzS (i : Nat) (f : DS) : DS := fun env st => f (frzE i env) st
end
theorem j_ {P : Program} {w : World} {K : PySem.W.Frag} {mg : Str → Option Value} {base : Heap} {xs : XS} {x : Str} {s : Stmt} {k n m : Nat} {body : DS} {h : Heap} (XK : K.In h) (G : h.Ns mainGlobals mg) {f : Addr} {od an : Option Addr} {sl : Array (Option Value)} {oc kV dc pm cd ct : Value} {N ps : List Str}
    (a : PySem.W.nsIn K mainGlobals x = some (some (.ref f))) (l : K.lookup f = some ⟨oc, od, .func (PySem.W.fnOf x x (defArgs s) (defBody s) (defScope s) .none kV dc pm an cd ct), sl⟩) (c : PySem.W.codeIn K cd x = true) (kp : PySem.W.keepIn K (.ref f) = true)
    (S : FnScope N ps (defScope s)) (hb : ∀ (us : List Value), us.length = ps.length → bindArgs (PySem.W.fnOf x x (defArgs s) (defBody s) (defScope s) .none kV dc pm an cd ct) ⟨us, []⟩ = Pure.pure (ps.zip us)) (hn : ps.length = n) (hm : N.length = m)
    (B : ∀ f fd, Fun K x x s f fd → FnOk P w K mg base (L2.CX P w) k f fd ps (spD K xs ps.length (runB N.length ps.length body))) : Fn P w K mg base xs x k n (runB m n body) := by
  subst hn; subst hm
  have F := fun_mk (st := s) l c kp
  exact ⟨⟨f, _, ps, PySem.W.mg_of XK G a, kp, .all hb, B f _ F⟩, fun us st h => t_ us st h⟩
section
variable {K : PySem.W.Frag} {F : Addr → Prop} {io : List Addr} {st : Store} {env : Env} {sg : L2.St} {H : Hp}
theorem Fr.alloc (f : Fr K F io st env sg H) {a : Addr} {o : HO} {ob : Ob} (na : H a = none) (hx : NX o) (new : jg K (Wf (Gs F env sg) (io ++ [a])) (io ++ [a]) (upd H a o) a ob) :
    Fr K F (io ++ [a]) (st ++ [ob]) env sg (upd H a o) ∧ Ext io H (io ++ [a]) (upd H a o) := by
  have nW : ¬ Wf (Gs F env sg) io a := f.ok.fresh na
  have s : Same H (upd H a o) := aO na
  have ex : Ext io H (io ++ [a]) (upd H a o) := ⟨⟨[a], rfl, fun b hb => by rw [List.mem_singleton] at hb; rw [hb]; exact na⟩, fun b u _ h => s b u h, fun b u h => ⟨u, s b u h⟩⟩
  have ok : Ok K (Gs F env sg) (io ++ [a]) (st ++ [ob]) (upd H a o) := by
    refine ⟨?_, fun b hb z => ?_, fun b hb => ?_, by simp [f.ok.len], fun n ob' b e1 e2 => ?_⟩
    · rw [List.nodup_append]
      refine ⟨f.ok.nd, by simp, fun x hx y hy e => ?_⟩
      rw [List.mem_singleton] at hy
      subst hy; subst e
      exact nW (.inr hx)
    · rcases List.mem_append.mp hb with h | h
      · exact f.ok.dj b h z
      · rw [List.mem_singleton] at h; subst h
        exact nW (.inl z)
    · by_cases e : b = a
      · subst e; exact ⟨o, upd_same, hx⟩
      · have hb' : Wf (Gs F env sg) io b := hb.imp id fun z => by
          rcases List.mem_append.mp z with h | h
          · exact h
          · exact (e (List.mem_singleton.mp h)).elim
        obtain ⟨u, q, x⟩ := f.ok.trk b hb'
        exact ⟨u, s b u q, x⟩
    · by_cases hn : n < io.length
      · rw [List.getElem?_append_left hn] at e2
        rw [List.getElem?_append_left (by rw [f.ok.len]; exact hn)] at e1
        exact (f.ok.obs n ob' b e1 e2).mono ex.mono (fun u q => s b u q) fun dd ws q => s _ _ q
      · rw [List.getElem?_append_right (Nat.le_of_not_lt hn)] at e2
        rw [List.getElem?_append_right (by rw [f.ok.len]; exact Nat.le_of_not_lt hn)] at e1
        rw [f.ok.len] at e1
        have h0 : n - io.length = 0 := by
          cases h : n - io.length with
          | zero => rfl
          | succ k => rw [h] at e2; simp at e2
        rw [h0] at e1 e2
        simp only [List.getElem?_cons_zero, Option.some.injEq] at e1 e2
        subst e1; subst e2
        exact new
  exact ⟨f.ext ok ex, ex⟩
end
noncomputable def fW (l : List (Str × Bool)) (c : Str) : Option Bool := l.lookup c
noncomputable def sTryK (t : List (Str × Bool)) (i j : Nat) (b : DS) : DS := fun env st => match b env st with
  | .ex c fs env' st' => match fW t c with
    | some true => .nx (((env'.set i (.val (.ref st'.length))).set j (.val (.ref st'.length))).set i .un) (st' ++ [.ins c fs])
    | some false => .ex c fs env' st'
    | none => .bad
  | o => o
noncomputable def noXS : XS := fun _ _ _ _ _ => False
theorem law_sp {K : PySem.W.Frag} {xs : XS} {H : Hp} {a : Addr} {ns : List Int} {f : List U → Store → Rs U} (hS : SqL K H a (ns.map V.int)) (h : ∃ st', f [.scr ns] [] = .ok (.bl true) st') : spD K xs 1 f [.ref a] H (fun v _ => v = .bl true) fun _ _ _ => False := by
  obtain ⟨st', e⟩ := h
  refine ⟨rfl, fun _ => False, [], [], [.scr ns], ⟨List.nodup_nil, fun _ h => (nomatch h), fun a h => h.elim False.elim (fun z => nomatch z), rfl, fun n ob a h => nomatch h⟩, .cons ?_ .nil, ?_⟩
  · unfold Rep
    exact ⟨a, rfl, hS.imp (fun x => ⟨x, fun z => z.elim id fun z => nomatch z⟩) id⟩
  · rw [e]
    exact fun io' H' _ _ v hv => hv.bl'
theorem cx_no {P : Program} {w : World} {outer : List PySem.Env} {H : Hp} {s : Shared} {e : Value} {s' : Shared} (h : L2.CX P w outer H s (fun _ _ _ => False) e s') : False := by
  obtain ⟨_, _, _, _, _, _, _, _, _, _, _, _, z⟩ := h
  exact z
section
variable {A B : Type}
@[simp] theorem fU (a : A) (st : Store) (k : A → Store → Rs B) : (Rs.ok a st).bind k = k a st := (rfl)
@[simp] theorem bind_ex (c : Str) (us : List (Str × U)) (st : Store) (k : A → Store → Rs B) : (Rs.ex c us st : Rs A).bind k = .ex c us st := (rfl)
@[simp] theorem bind_bad (k : A → Store → Rs B) : (Rs.bad : Rs A).bind k = .bad := (rfl)
@[simp] theorem of_some (a : A) (st : Store) : Rs.of (some a) st = .ok a st := (rfl)
@[simp] theorem of_none (st : Store) : Rs.of (none : Option A) st = .bad := (rfl)
@[simp] theorem out_ok (a : A) (st : Store) (env : Env) (k : A → Store → Out) : (Rs.ok a st).out env k = k a st := (rfl)
@[simp] theorem out_ex (c : Str) (us : List (Str × U)) (st : Store) (env : Env) (k : A → Store → Out) : (Rs.ex c us st : Rs A).out env k = .ex c us env st := (rfl)
@[simp] theorem out_bad (env : Env) (k : A → Store → Out) : (Rs.bad : Rs A).out env k = .bad := (rfl)
@[simp] theorem noEx_ok (a : A) (st : Store) : dD (Rs.ok a st) = .ok a st := (rfl)
@[simp] theorem noEx_bad : dD (Rs.bad : Rs A) = .bad := (rfl)
@[simp] theorem seq_nx (env : Env) (st : Store) (k : Env → Store → Out) : (Out.nx env st).seq k = k env st := (rfl)
@[simp] theorem seq_rt (u : U) (st : Store) (k : Env → Store → Out) : (Out.rt u st).seq k = .rt u st := (rfl)
@[simp] theorem seq_bk (env : Env) (st : Store) (k : Env → Store → Out) : (Out.bk env st).seq k = .bk env st := (rfl)
@[simp] theorem seq_ct (env : Env) (st : Store) (k : Env → Store → Out) : (Out.ct env st).seq k = .ct env st := (rfl)
@[simp] theorem seq_ex (c : Str) (us : List (Str × U)) (env : Env) (st : Store) (k : Env → Store → Out) : (Out.ex c us env st).seq k = .ex c us env st := (rfl)
@[simp] theorem seq_bad (k : Env → Store → Out) : Out.bad.seq k = .bad := (rfl)
@[simp] theorem fin_rt (u : U) (st : Store) : fin (.rt u st) = .ok u st := (rfl)
@[simp] theorem fin_nx (env : Env) (st : Store) : fin (.nx env st) = .ok .non st := (rfl)
@[simp] theorem fin_ex (c : Str) (us : List (Str × U)) (env : Env) (st : Store) : fin (.ex c us env st) = .ex c us st := (rfl)
@[simp] theorem fin_bad : fin .bad = .bad := (rfl)
end
section
variable (env : Env) (st : Store)
@[simp] theorem lU (u : U) : cst u env st = .ok u st := (rfl)
@[simp] theorem var_zero (u : U) (e : Env) : var 0 (.val u :: e) st = .ok u st := (rfl)
@[simp] theorem var_succ (i : Nat) (s : Sl) (e : Env) : var (i + 1) (s :: e) st = var i e st := (rfl)
@[simp] theorem pD (g : U → U → Option U) (a b : DE) : bin g a b env st = (a env st).bind fun u st1 => (b env st1).bind fun v st2 => Rs.of (g u v) st2 := (rfl)
@[simp] theorem anil_ap : az env st = .ok [] st := (rfl)
@[simp] theorem vU (a : DE) (b : DA) : aa a b env st = (a env st).bind fun u st1 => (b env st1).bind fun us st2 => .ok (u :: us) st2 := (rfl)
@[simp] theorem appN_ap (g : List U → Option U) (a : DA) : aQ g a env st = (a env st).bind fun us st1 => Rs.of (g us) st1 := (rfl)
@[simp] theorem appU_ap (g : List U → Store → Rs U) (a : DA) : bo g a env st = (a env st).bind fun us st1 => g us st1 := (rfl)
@[simp] theorem tO (a : DE) : tst a env st = (a env st).bind fun u st1 => match u with
  | .bl b => .ok b st1
  | _ => .bad := (rfl)
@[simp] theorem andT_ap (a b : DT) : andT a b env st = (a env st).bind fun c st1 => if c = true then b env st1 else .ok false st1 := (rfl)
@[simp] theorem orT_ap (a b : DT) : orT a b env st = (a env st).bind fun c st1 => if c = true then .ok true st1 else b env st1 := (rfl)
@[simp] theorem notT_ap (a : DT) : notT a env st = (a env st).bind fun c st1 => .ok (!c) st1 := (rfl)
@[simp] theorem yesT_ap : dG env st = .ok true st := (rfl)
@[simp] theorem chain_ap (g h : U → U → Option U) (a b c : DE) : chain g h a b c env st = (a env st).bind fun u st1 => (b env st1).bind fun v st2 => match g u v with
  | some (.bl k) => if k = true then (c env st2).bind fun w st3 => Rs.of (h v w) st3 else .ok (.bl false) st2
  | _ => .bad := (rfl)
@[simp] theorem andV_ap (a b : DE) : andV a b env st = (a env st).bind fun u st1 => match u with
  | .bl c => if c = true then b env st1 else .ok (.bl false) st1
  | _ => .bad := (rfl)
@[simp] theorem orV_ap (a b : DE) : orV a b env st = (a env st).bind fun u st1 => match u with
  | .bl c => if c = true then .ok (.bl true) st1 else b env st1
  | _ => .bad := (rfl)
@[simp] theorem notV_ap (a : DE) : notV a env st = (a env st).bind fun u st1 => match u with
  | .bl c => .ok (.bl (!c)) st1
  | _ => .bad := (rfl)
@[simp] theorem ifE_ap (c : DT) (a b : DE) : ifE c a b env st = (c env st).bind fun t st1 => if t = true then a env st1 else b env st1 := (rfl)
@[simp] theorem neg1D_ap (a : DE) : neg1D a env st = (a env st).bind fun u st1 => Rs.of (neg1 u) st1 := (rfl)
@[simp] theorem newL_ap (f : DL) : bO f env st = (f env st).bind fun us st1 => .ok (.lst us) st1 := (rfl)
@[simp] theorem szDL_ap (f : DA) : szDL f env st = (f env st).bind fun us st1 => if us.length ≤ sizeLine then .ok us st1 else .bad := (rfl)
@[simp] theorem itemsD_ap (f : DE) : cH f env st = (f env st).bind fun u st1 => Rs.of (items u) st1 := (rfl)
@[simp] theorem itA_ap (g : List U → Option (List U)) (f : DA) : itA g f env st = (f env st).bind fun us st1 => Rs.of (g us) st1 := (rfl)
@[simp] theorem compD_ap (f : DL) (vs : List Nat) (t : Tg) (c : DT) (e : DE) : bG f vs t c e env st = (f env st).bind fun us st1 => if us.length ≤ sizeLine then dD (bu t c e us (bR env vs) st1) else .bad := (rfl)
@[simp] theorem noO_ap : noO env st = .ok none st := (rfl)
@[simp] theorem soO_ap (f : DE) : soO f env st = (f env st).bind fun u st1 => match u with
  | .int i => .ok (some i) st1
  | _ => .bad := (rfl)
@[simp] theorem slD_ap (f : DE) (a b : DO) : slD f a b env st = (f env st).bind fun u st1 => (a env st1).bind fun lo st2 => (b env st2).bind fun hi st3 => Rs.of (sl3 u lo hi) st3 := (rfl)
@[simp] theorem dispD_ap (ps : List (DE × DE)) : dispD ps env st = (dD (ju ps env st)).bind fun l st1 => Rs.of (dispU l) st1 := (rfl)
@[simp] theorem sNil_ap : bL env st = .nx env st := (rfl)
@[simp] theorem jk (f g : DS) : aF f g env st = (f env st).seq g := (rfl)
@[simp] theorem sExpr_ap (f : DE) : sExpr f env st = (f env st).out env fun _ st1 => .nx env st1 := (rfl)
@[simp] theorem sRet_ap (f : DE) : di f env st = (f env st).out env fun u st1 => .rt u st1 := (rfl)
@[simp] theorem sIf_ap (c : DT) (f g : DS) : sIf c f g env st = (c env st).out env fun b st1 => if b = true then f env st1 else g env st1 := (rfl)
@[simp] theorem sSet_ap (i : Nat) (f : DE) : bh i f env st = (f env st).out env fun u st1 => .nx (env.set i (.val u)) st1 := (rfl)
@[simp] theorem sOwn_ap (i : Nat) (f : DL) : sOwn i f env st = (f env st).out env fun us st1 => if i < env.length then .nx (env.set i (.own us)) st1 else .bad := (rfl)
@[simp] theorem sApp_ap (i : Nat) (f : DE) : sApp i f env st = match env[i]? with
  | some (.own us) => (f env st).out env fun u st1 => if us.length < sizeLine then .nx (env.set i (.own (us ++ [u]))) st1 else .bad
  | _ => .bad := (rfl)
@[simp] theorem frzS_ap (i : Nat) (f : DS) : frzS i f env st = f (frzE i env) st := (rfl)
@[simp] theorem sFor_ap (f : DL) (t : Tg) (b : DS) : oG f t b env st = (f env st).out env fun us st1 => forL t b us env st1 := (rfl)
@[simp] theorem setE_nil : bf env [] = env := (rfl)
@[simp] theorem setE_cons (p : Nat × U) (l : List (Nat × U)) : bf env (p :: l) = bf (env.set p.1 (.val p.2)) l := (rfl)
@[simp] theorem kZ (i : Nat) (u : U) : tgN i u = some [(i, u)] := (rfl)
end
@[simp] theorem runB_ap (m n : Nat) (body : DS) (us : List U) (st : Store) : runB m n body us st = if us.length = n then fin (body (env0 m us) st) else .bad := (rfl)
@[simp] theorem env0_ap (m : Nat) (us : List U) : env0 m us = us.map Sl.val ++ List.replicate (m - us.length) .un := (rfl)
@[simp] theorem aD : sizeLine = 16777216 := by decide +kernel
theorem for_nil (t : Tg) (b : DS) (env : Env) (st : Store) : forL t b [] env st = .nx env st := (rfl)
theorem vN (t : Tg) (c : DT) (e : DE) (env : Env) (st : Store) : bu t c e [] env st = .ok [] st := (rfl)
theorem iK (t : Tg) (c : DT) (e : DE) (u : U) (us : List U) (env : Env) (st : Store) : bu t c e (u :: us) env st = match t u with
    | none => .bad
    | some l => (c (bf env l) st).bind fun b st1 => if b = true then (e (bf env l) st1).bind fun v st2 => (bu t c e us env st2).bind fun r st3 => .ok (v :: r) st3 else bu t c e us env st1 := (rfl)
theorem cD {T : Type} {t : Tg} {e : DE} {env : Env} {st : Store} {f g : T → U} : ∀ (l : List T), (∀ c ∈ l, ∃ a, t (f c) = some a ∧ e (bf env a) st = .ok (g c) st) → bu t dG e (l.map f) env st = .ok (l.map g) st
  | [], _ => rfl
  | c :: l, h => by
    obtain ⟨a, h1, h2⟩ := h c List.mem_cons_self
    have ih := cD l fun x hx => h x (List.mem_cons_of_mem _ hx)
    rw [List.map_cons, iK, h1]
    simp only [yesT_ap, fU, if_true, h2, ih, List.map_cons]
theorem du {T : Type} {t : Tg} {q : DT} {e : DE} {env : Env} {st : Store} {f g : T → U} {p : T → Bool} : ∀ (l : List T), (∀ c ∈ l, ∃ a, t (f c) = some a ∧ q (bf env a) st = .ok (p c) st ∧ (p c = true → e (bf env a) st = .ok (g c) st)) → bu t q e (l.map f) env st = .ok ((l.filter p).map g) st
  | [], _ => rfl
  | c :: l, h => by
    obtain ⟨a, h1, h2, h3⟩ := h c List.mem_cons_self
    have ih := du l fun x hx => h x (List.mem_cons_of_mem _ hx)
    rw [List.map_cons, iK, h1]
    simp only [h2, fU]
    cases hp : p c with
    | true => simp only [if_true, h3 hp, fU, ih, List.filter_cons, hp, List.map_cons]
    | false => simp only [Bool.false_eq_true, if_false, ih, List.filter_cons, hp]
theorem fB (t : Tg) (b : DS) (u : U) (us : List U) (env : Env) (st : Store) : forL t b (u :: us) env st = match t u with
    | none => .bad
    | some l => match b (bf env l) st with
      | .nx env2 st2 => forL t b us env2 st2
      | .ct env2 st2 => forL t b us env2 st2
      | .bk env2 st2 => .nx env2 st2
      | .rt u st2 => .rt u st2
      | .ex c us env2 st2 => .ex c us env2 st2
      | .bad => .bad := rfl
theorem eqU_str (x y : Str) : eqU (.str x) (.str y) = decide (x = y) := by
  unfold eqU pd PyData.eqv
  by_cases h : x = y
  · subst h; simp
  · rw [decide_eq_false h]; exact beq_eq_false_iff_ne.mpr h
end D
namespace C
open PySem L2 D
theorem jZ {i : Int} (h1 : -18446744073709551616 < i) (h2 : i < 18446744073709551616) : bJ i = true := by
  unfold bJ
  exact decide_eq_true ⟨by omega, by omega⟩
theorem gM (n : Nat) (h : n ≤ 1000000) : fX [.int (n : Int)] = some ((List.range n).map fun i => U.int (i : Nat)) := by
  unfold fX
  dsimp only
  rw [if_pos ⟨by omega, by omega⟩, Int.toNat_natCast]
end C
namespace D
open PySem L2
noncomputable def IteT (K : PySem.W.Frag) (t : Addr) : It where
  go := fun n H => ∃ (ws : List V) (w : V), SqT K H t ws ∧ ws[n]? = some w
  yld := fun n H v H' => ∃ q w, v = .ref q ∧ H q = none ∧ H' = upd H q (.tup [.int (n : Nat), w]) ∧ ∀ ws, SqT K H t ws → ws[n]? = some w
  stop := fun n H => ∃ ws : List V, SqT K H t ws ∧ ws.length ≤ n
theorem pq {P : Program} {w : World} {B : Around} (hB : B.handled = none) (j t : Addr) (n : Nat) (its : Array Value) (hn : its[n]? = none) :
    Draws P w B j [j, t] n (fun _ _ => True) (fun m h => m = n ∧ h.IsTupleIter j t n ∧ h.IsTuple t its) where
  live := fun _ _ q => let ⟨o, ho, _⟩ := q.2.1; ⟨o, ho⟩
  frame := fun _ _ _ q kp => ⟨q.1, q.2.1.at fun o z => kp j (by simp) o z, q.2.2.at fun o z => kp t (by simp) o z⟩
  item := fun m sh Q E lt q hQ => absurd q.1 (Nat.ne_of_lt lt)
  done := fun sh Q E q hE => wpAny_nextOf_tuple_end hB q.2.1 q.2.2 hn hE
theorem n_ {P : Program} {w : World} {K : PySem.W.Frag} {els : List Expr} {k2 : Nat} {tp : Pos} (t e j : Addr) (htj : t ≠ j) (het : e ≠ t) (hej : e ≠ j) :
    Turn P w K (.Tuple els k2 tp) (IteT K t) [e, j] e (fun n h => (∃ was, IsEnum h e j ((n : Nat) : Int) was) ∧ h.IsTupleIter j t n) := by
  have two : ∀ b, b ∈ [e, j] → b = e ∨ b = j := fun b hb => by simpa using hb
  refine ⟨List.mem_cons_self, fun n h q b hb => ?_, fun n h h' q kp => ?_, ?_, ?_, ?_⟩
  · obtain ⟨⟨was, he⟩, ⟨o, ho, _, hd⟩⟩ := q
    rcases two b hb with z | z
    · rw [z]; exact ⟨_, he, fun v y => nomatch y⟩
    · rw [z]; exact ⟨o, ho, fun v y => by rw [hd] at y; cases y⟩
  · obtain ⟨⟨was, he⟩, hj⟩ := q
    exact ⟨⟨was, kp e List.mem_cons_self _ he⟩, hj.at fun o z => kp j (by simp) o z⟩
  · intro X eP ew eK calm n pins sh sg H E I fpk q go
    subst eP; subst ew; subst eK
    obtain ⟨⟨was, he⟩, hj⟩ := q
    obtain ⟨ws, w, sq, hw⟩ := go
    obtain ⟨its, rv, p, _⟩ := I.tuple sq
    obtain ⟨u, hu, ru⟩ := rv.get hw
    have p' : sh.heap.IsTuple t its.toArray := p
    have le : e < sh.heap.objs.size := Heap.lt_size he
    have lj : j < sh.heap.objs.size := by obtain ⟨_, z, _⟩ := hj; exact Heap.lt_size z
    have hn : n < its.length := (List.getElem?_eq_some_iff.mp hu).1
    refine wpAny_pyNext_enum_itemD (Draws.tuple (prog := X.prog) (w := X.w) (A := X.A.in1) (I.ok.hd calm) j t htj its.toArray) he ⟨hj, p'⟩ (by simpa using hn) hej (by simp [hej, het]) fun x h' tk hx out st' new hsz kp => ?_
    have hxu : x = u := by
      have hx : its.toArray[n]? = some x := hx
      rw [List.getElem?_toArray, hu] at hx
      exact (Option.some.inj hx).symm
    subst hxu
    refine ⟨_, rfl, wpAny_letOwnedTupleGo_enum (s := { sh with heap := h', toks := tk + 1 }) out fun h2 he2 sb => ?_⟩
    have at2 : h2.get? sh.heap.objs.size = some { cls := .type "tuple", data := .seq #[.int n tk, x] } := (sb.2 _ (Nat.ne_of_gt le)).trans new
    have ob : ObjOk X.prog X.w (upd H sh.heap.objs.size (.tup [.int (n : Nat), w])) h2 sh.heap.objs.size (.tup [.int (n : Nat), w]) := ⟨by show 2 ≤ sizeLine; decide, [.int n tk, x], .cons ⟨_, rfl⟩ (.cons ru .nil), ⟨_, at2, rfl, _, rfl⟩⟩
    have I2 : Inv X pins sg (upd H sh.heap.objs.size (.tup [.int (n : Nat), w])) { sh with heap := h2, toks := tk + 1 } :=
      I.turnedNew (ch := [e, j]) (fun b o hb z => (sb.2 b fun y => hb (by simp [y])).trans (kp b o (fun y => hb (by simp [y])) (fun y => hb (by simp [y])) z)) fpk (Nat.le_refl _) ob
    refine ⟨.ref sh.heap.objs.size, _, I2, rfl, ⟨_, w, rfl, I.hok.fresh (Nat.le_refl _), rfl, fun ys hy => by rw [I.tuple_inj hy sq]; exact hw⟩, ⟨⟨x, ?_⟩, st'.1.at fun o z => (sb.2 j (Ne.symm hej)).trans z⟩, fun b hb => ?_⟩
    · have : ((n + 1 : Nat) : Int) = (n : Int) + 1 := by omega
      rw [this]; exact he2
    · have lb : b < sh.heap.objs.size := by
        rcases two b hb with z | z
        · rw [z]; exact le
        · rw [z]; exact lj
      rw [upd_ne (Nat.ne_of_lt lb)]
      exact (fpk b hb).1
  · intro X eP ew eK calm n pins sh sg H E I fpk q go
    subst eP; subst ew; subst eK
    obtain ⟨⟨was, he⟩, hj⟩ := q
    obtain ⟨ws, sq, hw⟩ := go
    obtain ⟨its, rv, p, _⟩ := I.tuple sq
    have p' : sh.heap.IsTuple t its.toArray := p
    have len := rv.length
    obtain ⟨f0, f1, f2, f3, f4, f5⟩ := fpk j (by simp)
    exact wpAny_pyNext_enum_endD (pq (P := X.prog) (w := X.w) (B := X.A.in1) (I.ok.hd calm) j t n its.toArray (by simp; omega)) he ⟨rfl, hj, p'⟩ fun h' eb => ⟨rfl, I.turned (t' := sh.toks) (fun b o hb z => eb b o hb z) f0 f1 f3 f4 f5⟩
  · intro A n sh Q E q hQ
    obtain ⟨⟨_, he⟩, _⟩ := q
    exact wpAny_pyIter_enum he hQ
set_option maxHeartbeats 1000000 in
theorem m7 {v : Value} {ob : Obj} {Hh : Heap → Prop} (B : Begins v ob Hh) :
    Meets (Builtin.«enumerate.__new__» ⟨[.type "enumerate", v], []⟩) (fun _ R sh => Hh sh.heap ∧
      R (.ok (.ret (.ref (sh.heap.push ob).objs.size))) { sh with heap := (sh.heap.push ob).push { cls := .type "enumerate", data := .fields #[.none, .bool false, .ref sh.heap.objs.size, rawInt 0, .none, .none] } }) := by
  refine .of_wp fun P w A R sh h => ?_
  obtain ⟨hp, g, d, tk, os⟩ := sh
  obtain ⟨h1, h⟩ := h
  have isSub := sub_enumerate
  have begin1 : ∀ {A2 : Around} {E : Value → Shared → Prop} {Q : Value → Shared → Prop}, Q (.ref hp.objs.size) ⟨hp.push ob, g, d, tk, os⟩ → wpAny (model P w) A2 (pyIter v) Q E ⟨hp, g, d, tk, os⟩ := fun q => B.iter P w _ _ ⟨hp, g, d, tk, os⟩ _ h1 q
  wp_walk using begin1
  refine wpAny_stack_any fun _ => wpAny_pure ?_
  split
  · rename_i c _ _ _ _ _
    cases (c == Value.type "enumerate") <;> (wp_walk using begin1; exact ⟨_, rfl, h⟩)
  · wp_walk using begin1
    exact ⟨_, rfl, h⟩
section
variable {P : Program} {w : World} {A : Around} {E : Value → Shared → Prop} {sh : Shared}
theorem pB {t : Addr} {its : Array Value} {Q : Value → Shared → Prop} (hT : sh.heap.IsTuple t its)
    (h : ∀ h', IsEnum h' (sh.heap.objs.size + 1) sh.heap.objs.size 0 .none → h'.IsTupleIter sh.heap.objs.size t 0 → (∀ b o, sh.heap.get? b = some o → h'.get? b = some o) → Q (.ref (sh.heap.objs.size + 1)) { sh with heap := h' }) :
    wpAny (model P w) A (call (.type "enumerate") [.ref t]) Q E sh := by
  refine callType_new F.called_enumerate (by decide) (F.typeCall_enumerate_1 _) (F.newCall_enumerate_1 _) (fun x => F.args_object_init_2 x _) F.entry_enumerate_new (m7 (begins_tuple t its)) ⟨hT, ?_⟩
  have hz : (sh.heap.push { cls := .type "tuple_iterator", data := .fields #[.ref t, .int 0 0] }).objs.size = sh.heap.objs.size + 1 := by rw [Heap.size_push]
  have he := Heap.get?_push_size (sh.heap.push { cls := .type "tuple_iterator", data := .fields #[.ref t, .int 0 0] }) (o := { cls := .type "enumerate", data := .fields #[.none, .bool false, .ref sh.heap.objs.size, rawInt 0, .none, .none] }) rfl
  show _ ∧ _
  rw [hz]
  rw [hz] at he
  exact ⟨⟨_, he, rfl⟩, h _ he ⟨_, Heap.get?_push_of_some _ (Heap.get?_push_size _ rfl), rfl, rfl⟩ fun b o x => Heap.get?_push_of_some _ (Heap.get?_push_of_some _ x)⟩
end
noncomputable def iEnA (K : PySem.W.Frag) (ta : TA) : TI := fun sg H R => ta sg H fun vs H1 => ∃ a ws, vs = [.ref a] ∧ ((SqL K H1 a ws ∧ R (Ite K a) H1) ∨ (SqT K H1 a ws ∧ R (IteT K a) H1))
theorem ux {X : Cx} {e : Expr} {ta : TA} {p pos tp : Pos} {els : List Expr} {k2 : Nat} (hg : Gl X "enumerate") (hm : X.mg "enumerate" = none) (ha : PA X [e] ta) (hs : starEach [e] X.env = [(false, eval e X.env)] := by rfl) :
    PI X (.Tuple els k2 tp) (.Call (.Name "enumerate" p) [e] [] pos) (iEnA X.K ta) := by
  refine ⟨fun pins s sg H R I h => ?_⟩
  refine PyProof.Rows.Call_ (ld_blt I hg hm PyProof.Rows.boot_enumerate (PyProof.Rows.callWith_type1 (thn (ha.run pos pins s sg H _ I h) fun us s1 ⟨vs, H1, I1, r1, q1⟩ => ?_) hs rfl))
  obtain ⟨a, ws, rfl, q1⟩ := q1
  have two : ∀ b, b ∈ [s1.heap.objs.size + 1, s1.heap.objs.size] → FpOk X pins H1 b := fun b hb => by
    have hle : s1.heap.objs.size ≤ b := by
      have : b = s1.heap.objs.size + 1 ∨ b = s1.heap.objs.size := by simpa using hb
      omega
    exact I1.fpOk hle (I1.hok.fresh hle)
  cases r1 with
  | cons r rr =>
    cases rr
    cases r
    rcases q1 with ⟨sq, q⟩ | ⟨sq, q⟩
    · obtain ⟨its, rv, p', _⟩ := I1.list sq
      exact call_enumerate_list p'.isList fun h' he hit hsz hk => wpAny_pyIter_enum he ⟨s1.heap.objs.size + 1, _, _, _, H1, rfl, I1.kept (t' := s1.toks) hk, turn_enum a (s1.heap.objs.size + 1) s1.heap.objs.size, ⟨⟨.none, he⟩, hit, Nat.succ_ne_self _⟩, two, q⟩
    · obtain ⟨its, rv, p', _⟩ := I1.tuple sq
      have la : a < s1.heap.objs.size := by obtain ⟨_, z, _⟩ := id p'; exact Heap.lt_size z
      exact pB (show s1.heap.IsTuple a its.toArray from p') fun h' he hit hk => wpAny_pyIter_enum he ⟨s1.heap.objs.size + 1, _, _, _, H1, rfl, I1.kept (t' := s1.toks) hk,
        n_ a (s1.heap.objs.size + 1) s1.heap.objs.size (Nat.ne_of_lt la) (Nat.ne_of_gt (Nat.lt_succ_of_lt la)) (Nat.succ_ne_self _), ⟨⟨.none, he⟩, hit⟩, two, q⟩
noncomputable def eV (us : List U) : List U := us.mapIdx fun i u => U.tup [.int (i : Nat), u]
noncomputable def bj : List U → Option (List U)
  | [.lst us] => some (eV us)
  | [.tup us] => some (eV us)
  | [.scr ns] => some (eV (ns.map U.int))
  | _ => none
section
variable {K : PySem.W.Frag} {G : Addr → Prop} {io : List Addr} {H : Hp}
theorem qb {G' : Addr → Prop} {io' : List Addr} {st' : Store} {H' : Hp} {q : Addr} {u w : U} {x y : V} (ok : Ok K G' io' st' H') (hq : H' q = none) (r1 : Rep K (Wf G' io') io' H' u x) (r2 : Rep K (Wf G' io') io' H' w y) :
    Rep K (Wf G' io') io' (upd H' q (.tup [x, y])) (.tup [u, w]) (.ref q) := ok.uO hq (.cons r1 (.cons r2 .nil))
theorem tG {a : Addr} {us : List U} {vs : List V} (h : ∀ (G' : Addr → Prop) (io' : List Addr) (H' : Hp), b_ G io H G' io' H' → SqL K H' a vs) (r : aq K (Wf G io) io H us vs) : Wk K G (Ite K a) io H (eV us) := by
  have hl : (eV us).length = us.length := by unfold eV; exact List.length_mapIdx
  refine ⟨fun i G' io' st' H' ok m hi => ?_, fun i G' io' st' H' ok m hi => ⟨vs, h _ _ _ m, by rw [← r.length]; omega⟩⟩
  have hi' : i < us.length := by omega
  obtain ⟨v, hv, rv⟩ := r.get (List.getElem?_eq_getElem hi')
  refine ⟨⟨vs, v, h _ _ _ m, hv⟩, fun x H'' y => ?_⟩
  obtain ⟨q, w, rfl, hq, rfl, hw⟩ := y
  have e := (hw vs (h _ _ _ m)).symm.trans hv
  cases e
  refine ⟨aO hq, .tup [.int (i : Nat), us[i]], by unfold eV; simp [hi'], qb ok hq (dJ _) (rv.mono m)⟩
theorem wk_enT {a : Addr} {us : List U} {vs : List V} (h : ∀ (G' : Addr → Prop) (io' : List Addr) (H' : Hp), b_ G io H G' io' H' → SqT K H' a vs) (r : aq K (Wf G io) io H us vs) : Wk K G (IteT K a) io H (eV us) := by
  have hl : (eV us).length = us.length := by unfold eV; exact List.length_mapIdx
  refine ⟨fun i G' io' st' H' ok m hi => ?_, fun i G' io' st' H' ok m hi => ⟨vs, h _ _ _ m, by rw [← r.length]; omega⟩⟩
  have hi' : i < us.length := by omega
  obtain ⟨v, hv, rv⟩ := r.get (List.getElem?_eq_getElem hi')
  refine ⟨⟨vs, v, h _ _ _ m, hv⟩, fun x H'' y => ?_⟩
  obtain ⟨q, w, rfl, hq, rfl, hw⟩ := y
  have e := (hw vs (h _ _ _ m)).symm.trans hv
  cases e
  refine ⟨aO hq, .tup [.int (i : Nat), us[i]], by unfold eV; simp [hi'], qb ok hq (dJ _) (rv.mono m)⟩
end
section
variable {X : Cx} {xs : XS} {wx : WX} {pos : Pos} {tg : Expr}
theorem jc {e : Expr} {f : DA} {p tp : Pos} {els : List Expr} {k2 : Nat} (hg : Gl X "enumerate") (hm : X.mg "enumerate" = none) (ha : PA X [e] (tDA X.K xs wx f)) (hs : starEach [e] X.env = [(false, eval e X.env)] := by rfl) :
    PI X (.Tuple els k2 tp) (.Call (.Name "enumerate" p) [e] [] pos) (tI X.K xs wx (itA bj f)) := uw (ux hg hm ha hs) fun sg H R q => by
  obtain ⟨G, io, st, env, ok, er, w⟩ := q
  refine ⟨G, io, st, env, ok, er, w.bind.aX fun st1 io1 H1 us ok1 e1 w1 vs rvs => ?_⟩
  obtain ⟨ws, hu, w2⟩ := w1.pure
  unfold bj at hu
  split at hu
  · cases hu
    obtain ⟨v, rfl, rv⟩ := rvs.one
    obtain ⟨a, ys, rfl, l, r'⟩ := rv.bz
    exact ⟨a, ys, rfl, .inl ⟨l.sq, w2.here ok1 _ (tG (fun _ _ _ m => (l.mono m).sq) r')⟩⟩
  · cases hu
    obtain ⟨v, rfl, rv⟩ := rvs.one
    obtain ⟨a, ys, rfl, l, r'⟩ := rv.bH
    exact ⟨a, ys, rfl, .inr ⟨l.sq, w2.here ok1 _ (wk_enT (fun _ _ _ m => (l.mono m).sq) r')⟩⟩
  · cases hu
    obtain ⟨v, rfl, rv⟩ := rvs.one
    obtain ⟨a, rfl, l⟩ := rv.scr'
    exact ⟨a, _, rfl, .inl ⟨l.sq, w2.here ok1 _ (tG (fun _ _ _ m => (l.mono m).sq) (aq.ints _))⟩⟩
  · cases hu
noncomputable def itE (g : U → Option (List U)) (f : DE) : DL := fun env st => (f env st).bind fun u st1 => Rs.of (g u) st1
noncomputable def rev1 : U → Option (List U)
  | .lst us => some us.reverse
  | .tup us => some us.reverse
  | _ => none
end
section
variable {X : Cx} {xs : XS} {wx : WX} {pos : Pos}
noncomputable def ap1 (g : U → Option U) (f : DE) : DE := fun env st => (f env st).bind fun u st1 => Rs.of (g u) st1
noncomputable def back1 : U → Option U
  | .lst us => some (.lst us.reverse)
  | .tup us => some (.tup us.reverse)
  | .scr ns => some (.scr ns.reverse)
  | _ => none
theorem aq.reverse {K : PySem.W.Frag} {W : Addr → Prop} {io : List Addr} {H : Hp} : ∀ {us : List U} {vs : List V}, aq K W io H us vs → aq K W io H us.reverse vs.reverse
  | [], _, h => by rw [h.isNil]; exact .nil
  | u :: us, _, h => by
    obtain ⟨v, r, rfl, q, t⟩ := h.uncons
    rw [List.reverse_cons, List.reverse_cons]
    exact t.reverse.append (.cons q .nil)
end
@[simp] theorem ap1_ap (g : U → Option U) (f : DE) (env : Env) (st : Store) : ap1 g f env st = (f env st).bind fun u st1 => Rs.of (g u) st1 := (rfl)
@[simp] theorem itE_ap (g : U → Option (List U)) (f : DE) (env : Env) (st : Store) : itE g f env st = (f env st).bind fun u st1 => Rs.of (g u) st1 := (rfl)
@[simp] theorem tgT2_ap (i j : Nat) (a b : U) : tgT [i, j] (.tup [a, b]) = some [(i, a), (j, b)] := by
  unfold tgT
  rfl
@[simp] theorem tgT3_ap (i j k : Nat) (a b c : U) : tgT [i, j, k] (.tup [a, b, c]) = some [(i, a), (j, b), (k, c)] := by
  unfold tgT
  rfl
end D
namespace C
open PySem L2 D
noncomputable def letters : List Nat := (Str.ofString "abcdefghijklmnopqrstuvwxyz").cps.toList
noncomputable def aC (x : Str) : Bool := decide (1 ≤ x.length) && decide (x.length ≤ 8) && x.cps.toList.all (fun c => decide (c ∈ letters))
noncomputable def l_ : U → Bool
  | .str x => aC x
  | _ => false
noncomputable def ltU : U → U → Bool
  | .str x, .str y => ltC x y
  | _, _ => false
noncomputable def leafAt (us : List U) (k : Nat) : Bool := l_ (us.getD k .non) && (decide (k = 0) || ltU (us.getD (k - 1) .non) (us.getD k .non))
noncomputable def areL : U → Bool
  | .tup us => decide (us.length ≤ 8) && (List.range us.length).all (leafAt us)
  | _ => false
end C
namespace D
open PySem L2 PySem.Spec PyProof.Rows
noncomputable abbrev SKd (P : Program) (w : World) : PySem.KeyKind P w Str := PySem.strKind P w
noncomputable def GoodT (P : Program) (w : World) (e : Int × Value) : Prop := ∃ x tk, e.2 = Value.str x tk ∧ e.1 = (SKd P w).hash x
noncomputable def txtOf (e : Int × Value) : Str := match e.2 with
  | .str x _ => x
  | _ => Str.empty
noncomputable def SetS (P : Program) (w : World) (h : Heap) (a : Addr) (L : List Str) : Prop :=
  ∃ o es ep t, h.get? a = some o ∧ o.ExactSet ∧ o.data = .set es ep t ∧ (∀ e ∈ es.toList, GoodT P w e) ∧ (es.toList.map txtOf).Perm L ∧ L.Nodup ∧ es.size < scanBound ∧ t.fits es.size = true ∧ Ris t.place.toList ∧
    (w.params.followText "set-order" = true ∨ t.led = true)
section
variable {P : Program} {w : World} {h h' : Heap} {a : Addr} {L : List Str}
theorem SetS.at (R : SetS P w h a L) (k : ∀ o, h.get? a = some o → h'.get? a = some o) : SetS P w h' a L := by
  obtain ⟨o, es, ep, t, ho, r⟩ := R
  exact ⟨o, es, ep, t, k o ho, r⟩
end
section
variable {P : Program} {w : World} {A : Around} {E : Value → Shared → Prop} {s : Shared} {a : Addr} {L : List Str}
noncomputable def plusS (L : List Str) (x : Str) : List Str := if x ∈ L then L else x :: L
end
end D
namespace D
open PySem L2
theorem ltCps_eq : ∀ a b : List Nat, PySem.Spec.ltCps a b = decide (a < b)
  | [], [] => by simp [PySem.Spec.ltCps]
  | [], _ :: _ => by simp [PySem.Spec.ltCps]
  | _ :: _, [] => by simp [PySem.Spec.ltCps]
  | a :: r, b :: t => by
    unfold PySem.Spec.ltCps
    rw [ltCps_eq r t]
    simp only [List.cons_lt_cons_iff, Bool.decide_or, Bool.decide_and]
    rfl
noncomputable def leS (x y : Str) : Prop := x.cps.toList ≤ y.cps.toList
theorem lG (x y : Str) : leS x y ↔ ltC y x = false := by
  unfold leS ltC
  rw [decide_eq_false_iff_not, List.not_lt]
theorem uV {x y : Str} (h1 : leS x y) (h2 : leS y x) : x = y := by
  have := List.le_antisymm h1 h2
  cases x with | mk a => cases y with | mk b =>
    congr 1
    exact Array.toList_inj.mp this
theorem su (x y : Str) : leS x y ∨ leS y x := List.le_total _ _
theorem j9 {x y z : Str} (h1 : leS x y) (h2 : leS y z) : leS x z := List.le_trans h1 h2
noncomputable def o5 (x : Str) : List Str → List Str
  | [] => [x]
  | y :: r => if ltC y x then y :: o5 x r else x :: y :: r
noncomputable def bT : List Str → List Str
  | [] => []
  | x :: r => o5 x (bT r)
noncomputable def dedS : List Str → List Str
  | [] => []
  | x :: r => plusS (dedS r) x
theorem jE (x : Str) : ∀ l, (o5 x l).Perm (x :: l)
  | [] => .refl _
  | y :: r => by
    unfold o5
    split
    · exact ((jE x r).cons y).trans (.swap x y r)
    · exact .refl _
theorem fM : ∀ l, (bT l).Perm l
  | [] => .refl _
  | x :: r => (jE x _).trans ((fM r).cons x)
theorem jD (x : Str) : ∀ l, l.Pairwise leS → (o5 x l).Pairwise leS
  | [], _ => by unfold o5; exact List.pairwise_singleton _ _
  | y :: r, h => by
    obtain ⟨h1, h2⟩ := List.pairwise_cons.mp h
    unfold o5
    split
    · rename_i hlt
      refine List.pairwise_cons.mpr ⟨fun z hz => ?_, jD x r h2⟩
      rcases List.mem_cons.mp ((jE x r).mem_iff.mp hz) with e | e
      · subst e
        rcases su y z with q | q
        · exact q
        · rw [lG, hlt] at q; cases q
      · exact h1 z e
    · rename_i hlt
      have hxy : leS x y := (lG x y).mpr (by simpa using hlt)
      refine List.pairwise_cons.mpr ⟨fun z hz => ?_, h⟩
      rcases List.mem_cons.mp hz with e | e
      · subst e; exact hxy
      · exact j9 hxy (h1 z e)
theorem iY : ∀ l, (bT l).Pairwise leS
  | [] => List.Pairwise.nil
  | x :: r => jD x _ (iY r)
theorem j5 : ∀ (l : List Str) (x : Str), PyProof.Rows.risingS x l = true → (x :: l).Pairwise leS
  | [], x, _ => List.pairwise_singleton _ _
  | y :: r, x, h => by
    unfold PyProof.Rows.risingS at h
    rw [Bool.and_eq_true, ltCps_eq] at h
    have ih := j5 r y h.2
    have hxy : leS x y := (lG x y).mpr (by have := h.1; unfold ltC; simpa using this)
    refine List.pairwise_cons.mpr ⟨fun z hz => ?_, ih⟩
    rcases List.mem_cons.mp hz with e | e
    · subst e; exact hxy
    · exact j9 hxy ((List.pairwise_cons.mp ih).1 z e)
theorem oE : ∀ (l : List Str), PyProof.Rows.sortedS l = true → l.Pairwise leS
  | [], _ => List.Pairwise.nil
  | x :: r, h => j5 r x h
theorem sort_unique {ys L : List Str} (h1 : PyProof.Rows.sortedS ys = true) (h2 : ys.Perm L) : ys = bT L :=
  List.Perm.eq_of_pairwise (fun _ _ _ _ p q => uV p q) (oE ys h1) (iY L) (h2.trans (fM L).symm)
noncomputable def txts : U → Option (List Str)
  | .lst us => bB us
  | .tup us => bB us
  | _ => none
section
variable {X : Cx} {xs : XS} {wx : WX} {pos : Pos}
theorem tK {K : PySem.W.Frag} {W : Addr → Prop} {io : List Addr} {H : Hp} {u : U} {v : V} {ys : List Str} (r : Rep K W io H u v) (h : txts u = some ys) : ∃ l, v = .ref l ∧ (SqL K H l (ys.map V.str) ∨ SqT K H l (ys.map V.str)) := by
  unfold txts at h
  split at h
  · rename_i us
    rw [gK h] at r
    obtain ⟨a, vs, rfl, l, rs⟩ := r.bz
    rw [aq.ofStrs rs] at l
    exact ⟨a, rfl, .inl l.sq⟩
  · rename_i us
    rw [gK h] at r
    obtain ⟨a, vs, rfl, l, rs⟩ := r.bH
    rw [aq.ofStrs rs] at l
    exact ⟨a, rfl, .inr l.sq⟩
  · cases h
end
noncomputable def sUnp (t : Tg) (f : DE) : DS := fun env st => (f env st).out env fun u st1 => match t u with
  | none => .bad
  | some l => .nx (bf env l) st1
@[simp] theorem sUnp_ap (t : Tg) (f : DE) (env : Env) (st : Store) : sUnp t f env st = (f env st).out env fun u st1 => match t u with
  | none => .bad
  | some l => .nx (bf env l) st1 := (rfl)
@[simp] theorem add_int (i j : Int) : bQ (.int i) (.int j) = some (.int (i + j)) := (rfl)
@[simp] theorem lt_int (i j : Int) : lt2 (.int i) (.int j) = some (.bl (decide (i < j))) := (rfl)
@[simp] theorem le_int (i j : Int) : le2 (.int i) (.int j) = some (.bl (decide (i ≤ j))) := (rfl)
@[simp] theorem gt_int (i j : Int) : gt2 (.int i) (.int j) = some (.bl (decide (j < i))) := (rfl)
@[simp] theorem ge_int (i j : Int) : ge2 (.int i) (.int j) = some (.bl (decide (j ≤ i))) := (rfl)
@[simp] theorem eq_int (i j : Int) : eq2 (.int i) (.int j) = some (.bl (decide (i = j))) := (rfl)
@[simp] theorem ne_int (i j : Int) : ne2 (.int i) (.int j) = some (.bl (!decide (i = j))) := (rfl)
@[simp] theorem eq_str (i j : Str) : eq2 (.str i) (.str j) = some (.bl (decide (i = j))) := (rfl)
@[simp] theorem ne_str (i j : Str) : ne2 (.str i) (.str j) = some (.bl (!decide (i = j))) := (rfl)
@[simp] theorem eq_bl (i j : Bool) : eq2 (.bl i) (.bl j) = some (.bl (decide (i = j))) := (rfl)
@[simp] theorem ne_bl (i j : Bool) : ne2 (.bl i) (.bl j) = some (.bl (!decide (i = j))) := (rfl)
@[simp] theorem is_bl (i j : Bool) : is2 (.bl i) (.bl j) = some (.bl (decide (i = j))) := (rfl)
@[simp] theorem isnot_bl (i j : Bool) : dF (.bl i) (.bl j) = some (.bl (!decide (i = j))) := (rfl)
@[simp] theorem lt_str (i j : Str) : lt2 (.str i) (.str j) = some (.bl (ltC i j)) := (rfl)
@[simp] theorem le_str (i j : Str) : le2 (.str i) (.str j) = some (.bl (!ltC j i)) := (rfl)
@[simp] theorem neg_int (i : Int) : neg1 (.int i) = some (.int (-i)) := (rfl)
@[simp] theorem len_lst (us : List U) : gJ [.lst us] = some (.int us.length) := (rfl)
@[simp] theorem len_tup (us : List U) : gJ [.tup us] = some (.int us.length) := (rfl)
@[simp] theorem len_scr (us : List Int) : gJ [.scr us] = some (.int us.length) := (rfl)
@[simp] theorem tup_lst (us : List U) : eU [.lst us] = some (.tup us) := (rfl)
@[simp] theorem tup_tup (us : List U) : eU [.tup us] = some (.tup us) := (rfl)
@[simp] theorem items_lst (us : List U) : items (.lst us) = some us := (rfl)
@[simp] theorem items_tup (us : List U) : items (.tup us) = some us := (rfl)
@[simp] theorem max_int (i j : Int) : rZ [.int i, .int j] = some (.int (if j > i then j else i)) := (rfl)
@[simp] theorem min_int (i j : Int) : rY [.int i, .int j] = some (.int (if j < i then j else i)) := (rfl)
noncomputable def tabAt (tab : List (Str × U)) (x : Str) : Option U := (tab.find? fun p => decide (p.1 = x)).map (·.2)
section
variable {X : Cx}
variable {xs : XS} {wx : WX} {pos : Pos}
noncomputable def rE : U → Option (List U)
  | .lst us => some us
  | .tup us => some us
  | _ => none
noncomputable def sExt (i : Nat) (f : DE) : DS := fun env st => match env[i]? with
  | some (.own us) => (f env st).out env fun u st1 => match rE u with
    | some ws => if us.length + ws.length ≤ sizeLine then .nx (env.set i (.own (us ++ ws))) st1 else .bad
    | none => .bad
  | _ => .bad
end
@[simp] theorem sExt_ap (i : Nat) (f : DE) (env : Env) (st : Store) : sExt i f env st = match env[i]? with
  | some (.own us) => (f env st).out env fun u st1 => match rE u with
    | some ws => if us.length + ws.length ≤ sizeLine then .nx (env.set i (.own (us ++ ws))) st1 else .bad
    | none => .bad
  | _ => .bad := (rfl)
@[simp] theorem seqU_lst (us : List U) : rE (.lst us) = some us := (rfl)
@[simp] theorem seqU_tup (us : List U) : rE (.tup us) = some us := (rfl)
noncomputable def catU : U → U → Option (List U)
  | .lst a, .lst b => if a.length + b.length ≤ sizeLine then some (a ++ b) else none
  | _, _ => none
noncomputable def catL (f g : DE) : DL := fun env st => (f env st).bind fun u st1 => (g env st1).bind fun v st2 => Rs.of (catU u v) st2
@[simp] theorem catL_ap (f g : DE) (env : Env) (st : Store) : catL f g env st = (f env st).bind fun u st1 => (g env st1).bind fun v st2 => Rs.of (catU u v) st2 := (rfl)
@[simp] theorem catU_lst (a b : List U) : catU (.lst a) (.lst b) = if a.length + b.length ≤ 16777216 then some (a ++ b) else none := by rw [← aD]; rfl
section
variable {X : Cx} {xs : XS} {wx : WX} {pos : Pos}
noncomputable def maxI (n : Int) (r : List Int) : Int := r.foldl (fun a y => if a < y then y else a) n
noncomputable def maxD2 : U → U → Option U
  | .lst us, d => match cV us with
    | some (n :: r) => some (.int (maxI n r))
    | some [] => some d
    | none => none
  | _, _ => none
noncomputable def maxDef (f g : DE) : DE := fun env st => (f env st).bind fun u st1 => (g env st1).bind fun v st2 => Rs.of (maxD2 u v) st2
end
@[simp] theorem maxDef_ap (f g : DE) (env : Env) (st : Store) : maxDef f g env st = (f env st).bind fun u st1 => (g env st1).bind fun v st2 => Rs.of (maxD2 u v) st2 := (rfl)
noncomputable def jh : Option Sl → Option (List U)
  | some (.own us) => some us
  | some (.val (.lst us)) => some us
  | _ => none
noncomputable def eO (o : Option U) : Option U := match o with
  | some u => if aY u then some u else none
  | none => none
noncomputable def binO (g : U → U → Option U) (fa : DE) (i : Nat) : DE := fun env st => (fa env st).bind fun u st1 => Rs.of ((jh env[i]?).bind fun us => eO (g u (.lst us))) st1
@[simp] theorem binO_ap (g : U → U → Option U) (fa : DE) (i : Nat) (env : Env) (st : Store) : binO g fa i env st = (fa env st).bind fun u st1 => Rs.of ((jh env[i]?).bind fun us => eO (g u (.lst us))) st1 := (rfl)
@[simp] theorem ownL_own (us : List U) : jh (some (.own us)) = some us := (rfl)
@[simp] theorem ownL_val (us : List U) : jh (some (.val (.lst us))) = some us := (rfl)
@[simp] theorem flat1_bl (b : Bool) : eO (some (.bl b)) = some (.bl b) := (rfl)
@[simp] theorem flat1_int (b : Int) : eO (some (.int b)) = some (.int b) := (rfl)
noncomputable def isX (t : List (Str × Bool)) (f : DE) : DE := fun env st => (f env st).bind fun u st1 => match u with
  | .ref n => match st1[n]? with
    | some (.ins c _) => match fW t c with
      | some b => .ok (.bl b) st1
      | none => .bad
    | _ => .bad
  | _ => .bad
noncomputable def attrX (cs : List Str) (n : Str) (f : DE) : DE := fun env st => (f env st).bind fun u st1 => match u with
  | .ref k => match st1[k]? with
    | some (.ins c fs) => if c ∈ cs then match fs.lookup n with
      | some v => .ok v st1
      | none => .bad else .bad
    | _ => .bad
  | _ => .bad
noncomputable def sRaise (c : Str) (ns : List Str) (fa : DA) : DS := fun env st => (fa env st).out env fun us st1 => if us.length = ns.length ∧ us.all aY = true then .ex c (ns.zip us).reverse env st1 else .bad
@[simp] theorem sTryK_ap (t : List (Str × Bool)) (i j : Nat) (b : DS) (env : Env) (st : Store) : sTryK t i j b env st = match b env st with
  | .ex c fs env' st' => match fW t c with
    | some true => .nx (((env'.set i (.val (.ref st'.length))).set j (.val (.ref st'.length))).set i .un) (st' ++ [.ins c fs])
    | some false => .ex c fs env' st'
    | none => .bad
  | o => o := (rfl)
@[simp] theorem isX_ap (t : List (Str × Bool)) (f : DE) (env : Env) (st : Store) : isX t f env st = (f env st).bind fun u st1 => match u with
  | .ref n => match st1[n]? with
    | some (.ins c _) => match fW t c with
      | some b => .ok (.bl b) st1
      | none => .bad
    | _ => .bad
  | _ => .bad := (rfl)
@[simp] theorem attrX_ap (cs : List Str) (n : Str) (f : DE) (env : Env) (st : Store) : attrX cs n f env st = (f env st).bind fun u st1 => match u with
  | .ref k => match st1[k]? with
    | some (.ins c fs) => if c ∈ cs then match fs.lookup n with
      | some v => .ok v st1
      | none => .bad else .bad
    | _ => .bad
  | _ => .bad := (rfl)
@[simp] theorem sRaise_ap (c : Str) (ns : List Str) (fa : DA) (env : Env) (st : Store) : sRaise c ns fa env st = (fa env st).out env fun us st1 => if us.length = ns.length ∧ us.all aY = true then .ex c (ns.zip us).reverse env st1 else .bad := (rfl)
noncomputable def sRaise0 (c : Str) : DS := fun env st => .ex c [] env st
@[simp] theorem sRaise0_ap (c : Str) (env : Env) (st : Store) : sRaise0 c env st = .ex c [] env st := (rfl)
section
variable {K : PySem.W.Frag} {F G : Addr → Prop} {io : List Addr} {st : Store} {env : Env} {sg : L2.St} {H : Hp}
theorem Ok.alloc (ok : Ok K G io st H) {a : Addr} {o : HO} {ob : Ob} (na : H a = none) (hx : NX o) (new : jg K (Wf G (io ++ [a])) (io ++ [a]) (upd H a o) a ob) :
    Ok K G (io ++ [a]) (st ++ [ob]) (upd H a o) ∧ Ext io H (io ++ [a]) (upd H a o) := by
  have nW : ¬ Wf G io a := ok.fresh na
  have s : Same H (upd H a o) := aO na
  have ex : Ext io H (io ++ [a]) (upd H a o) := ⟨⟨[a], rfl, fun b hb => by rw [List.mem_singleton] at hb; rw [hb]; exact na⟩, fun b u _ h => s b u h, fun b u h => ⟨u, s b u h⟩⟩
  refine ⟨?_, ex⟩
  refine ⟨?_, fun b hb z => ?_, fun b hb => ?_, by simp [ok.len], fun n ob' b e1 e2 => ?_⟩
  · rw [List.nodup_append]
    refine ⟨ok.nd, by simp, fun x hx y hy e => ?_⟩
    rw [List.mem_singleton] at hy
    subst hy; subst e
    exact nW (.inr hx)
  · rcases List.mem_append.mp hb with h | h
    · exact ok.dj b h z
    · rw [List.mem_singleton] at h; subst h
      exact nW (.inl z)
  · by_cases e : b = a
    · subst e; exact ⟨o, upd_same, hx⟩
    · have hb' : Wf G io b := hb.imp id fun z => by
        rcases List.mem_append.mp z with h | h
        · exact h
        · exact (e (List.mem_singleton.mp h)).elim
      obtain ⟨u, q, x⟩ := ok.trk b hb'
      exact ⟨u, s b u q, x⟩
  · by_cases hn : n < io.length
    · rw [List.getElem?_append_left hn] at e2
      rw [List.getElem?_append_left (by rw [ok.len]; exact hn)] at e1
      exact (ok.obs n ob' b e1 e2).mono ex.mono (fun u q => s b u q) fun dd ws q => s _ _ q
    · rw [List.getElem?_append_right (Nat.le_of_not_lt hn)] at e2
      rw [List.getElem?_append_right (by rw [ok.len]; exact Nat.le_of_not_lt hn)] at e1
      rw [ok.len] at e1
      have h0 : n - io.length = 0 := by
        cases h : n - io.length with
        | zero => rfl
        | succ k => rw [h] at e2; simp at e2
      rw [h0] at e1 e2
      simp only [List.getElem?_cons_zero, Option.some.injEq] at e1 e2
      subst e1; subst e2
      exact new
theorem Fr.turnRef (f : Fr K F io st env sg H) {n : Nat} {us us' : List U} {vs' : List V} {a : Addr} (h1 : st[n]? = some (.lst us)) (h2 : io[n]? = some a) (r : aq K (Wf (Gs F env sg) io) io H us' vs') :
    Fr K F io (st.set n (.lst us')) env sg (upd H a (.lst vs')) ∧ cG io H (Ow env sg) io (upd H a (.lst vs')) (Ow env sg) := by
  have ha : a ∈ io := List.mem_of_getElem? h2
  have hn : n < st.length := (List.getElem?_eq_some_iff.mp h1).1
  have keep : ∀ b o, b ≠ a → H b = some o → (upd H a (.lst vs')) b = some o := fun b o q h => by rw [upd_ne q]; exact h
  have ex : cG io H (Ow env sg) io (upd H a (.lst vs')) (Ow env sg) := ⟨⟨[], by simp, fun _ h => nomatch h⟩, fun b o q _ h => keep b o (fun e => q (e ▸ ha)) h, fun b o h => by
    by_cases e : b = a
    · subst e; exact ⟨_, upd_same⟩
    · exact ⟨o, keep b o e h⟩, fun b h => .inl h⟩
  have m := ex.mono (F := F)
  have nG : ∀ b, Gs F env sg b → b ≠ a := fun b hb e => f.ok.dj a ha (e ▸ hb)
  have nxa : ∀ (dd : Addr) (ws : List (Str × V)), H dd = some (.xd ws) → dd ≠ a := fun dd ws z e => by
    subst e
    obtain ⟨o, e1, x⟩ := f.ok.trk dd (.inr ha)
    rw [z] at e1; cases e1; exact x ws rfl
  refine ⟨⟨⟨f.ok.nd, f.ok.dj, fun b h => ?_, by simp [f.ok.len], fun k ob b e1 e2 => ?_⟩, ⟨f.er.len, fun j sl o g1 g2 => ?_⟩, f.nF, f.dd⟩, ex⟩
  · obtain ⟨o, e, x⟩ := f.ok.trk b h
    by_cases hb : b = a
    · subst hb; exact ⟨_, upd_same, oW⟩
    · exact ⟨o, keep b o hb e, x⟩
  · by_cases hk : n = k
    · subst hk
      rw [List.getElem?_set_self hn] at e1
      rw [h2] at e2
      cases e1; cases e2
      exact ⟨vs', upd_same, r.mono m⟩
    · rw [List.getElem?_set_ne hk] at e1
      have nb : b ≠ a := fun e => by
        subst e
        exact hk ((List.getElem?_inj (List.getElem?_eq_some_iff.mp h2).1 f.ok.nd).mp (h2.trans e2.symm))
      exact (f.ok.obs k ob b e1 e2).mono m (fun u q => keep b u nb q) fun dd ws q => keep dd _ (nxa dd ws q) q
  · have q := f.er.sl j sl o g1 g2
    cases sl with
    | un => trivial
    | val u' => obtain ⟨v', q1, q2⟩ := q; exact ⟨v', q1, q2.mono m⟩
    | own w =>
      obtain ⟨b, vs1, q1, q2, q3, q4⟩ := q
      exact ⟨b, vs1, q1, q2, keep _ _ (nG b q2) q3, q4.mono m⟩
end
noncomputable def refL (f : DL) : DE := fun env st => (f env st).bind fun us st1 => .ok (.ref st1.length) (st1 ++ [.lst us])
noncomputable def ixR (f g : DE) : DE := fun env st => (f env st).bind fun u st1 => (g env st1).bind fun v st2 => match u, v with
  | .ref n, .int i => match st2[n]? with
    | some (.lst us) => Rs.of (atI us i) st2
    | _ => .bad
  | _, _ => .bad
noncomputable def rF (f g e : DE) : DS := fun env st => (e env st).out env fun v st1 => (f env st1).out env fun u st2 => (g env st2).out env fun k st3 => match u, k with
  | .ref n, .int i => match st3[n]? with
    | some (.lst us) => match ixN us.length i with
      | some j => .nx env (st3.set n (.lst (us.set j v)))
      | none => .bad
    | _ => .bad
  | _, _ => .bad
theorem aq.set : ∀ {K : PySem.W.Frag} {W : Addr → Prop} {io : List Addr} {H : Hp} {us : List U} {vs : List V} {u : U} {v : V} (j : Nat), aq K W io H us vs → Rep K W io H u v → aq K W io H (us.set j u) (vs.set j v)
  | _, _, _, _, [], vs, u, v, j, h, r => by rw [h.isNil]; simpa using aq.nil
  | _, _, _, _, w :: us, vs, u, v, 0, h, r => by
    obtain ⟨x, t, rfl, h1, h2⟩ := h.uncons
    exact .cons r h2
  | _, _, _, _, w :: us, vs, u, v, j + 1, h, r => by
    obtain ⟨x, t, rfl, h1, h2⟩ := h.uncons
    exact .cons h1 (aq.set j h2 r)
theorem aq.atI' {K : PySem.W.Frag} {W : Addr → Prop} {io : List Addr} {H : Hp} {us : List U} {vs : List V} {i : Int} {u : U} (h : aq K W io H us vs) (e : atI us i = some u) : ∃ v, atI vs i = some v ∧ Rep K W io H u v := by
  unfold atI at e ⊢
  rw [← h.length]
  cases q : ixN us.length i with
  | none => rw [q] at e; cases e
  | some j =>
    rw [q] at e
    exact h.get e
theorem mH {K : PySem.W.Frag} {G : Addr → Prop} {io : List Addr} {st : Store} {H : Hp} {n : Nat} {us : List U} {v : V} (ok : Ok K G io st H) (h : st[n]? = some (.lst us)) (r : Rep K (Wf G io) io H (.ref n) v) : ∃ a vs, v = .ref a ∧ io[n]? = some a ∧ H a = some (.lst vs) ∧ aq K (Wf G io) io H us vs := by
  unfold Rep at r
  obtain ⟨a, e1, rfl⟩ := r
  obtain ⟨vs, q1, q2⟩ := ok.obs n _ a h e1
  exact ⟨a, vs, rfl, e1, q1, q2⟩
section
variable {X : Cx} {xs : XS} {wx : WX} {pos : Pos}
theorem d_refL {e : Expr} {f : DL} (h : PE X e (tDL X.K xs wx f)) : PE X e (tD X.K xs wx (refL f)) := aW h fun sg H Q q => by
  obtain ⟨G, io, st, env, ok, er, w⟩ := q
  refine ⟨G, io, st, env, ok, er, w.bind.aX fun st1 io1 H1 us ok1 e1 w1 vs a rvs na => ?_⟩
  have sm : Same H1 (upd H1 a (.lst vs)) := aO na
  have m : b_ G io1 H1 G (io1 ++ [a]) (upd H1 a (.lst vs)) := ⟨⟨[a], rfl⟩, fun b o n h => ⟨sm b o h, fun z => z.elim (fun y => n (.inl y)) fun y => by
    rcases List.mem_append.mp y with y | y
    · exact n (.inr y)
    · rw [List.mem_singleton] at y
      subst y
      rw [na] at h; cases h⟩⟩
  obtain ⟨ok2, e2⟩ := ok1.alloc (o := .lst vs) (ob := .lst us) na oW ⟨vs, upd_same, rvs.mono m⟩
  refine w1 (io1 ++ [a]) _ ok2 e2 (.ref a) ?_
  unfold Rep
  refine ⟨a, ?_, rfl⟩
  rw [ok1.len, List.getElem?_append_right (Nat.le_refl _)]
  simp
theorem kh {a b : Expr} {f g : DE} (ha : PE X a (tD X.K xs wx f)) (hb : PE X b (tD X.K xs wx g)) (hs : PlainIx b) : PE X (.Subscript a b pos) (tD X.K xs wx (ixR f g)) := aW (pe_ix ix_list ha hb hs) fun sg H Q h => by
  obtain ⟨G, io, st, env, ok, er, w⟩ := h
  refine ⟨G, io, st, env, ok, er, w.bind.aX fun st1 io1 H1 u ok1 e1 w1 v rv => ?_⟩
  refine ⟨G, io1, st1, env, ok1, er.ext ok.dj e1, w1.bind.aX fun st2 io2 H2 u2 ok2 e2 w2 v2 rv2 => ?_⟩
  split at w2
  · rename_i n i
    split at w2
    · rename_i us hu
      obtain ⟨w', hw, w3⟩ := w2.pure
      obtain ⟨a, vs, rfl, q1, q2, q3⟩ := mH ok2 hu (rv.ext e2)
      have e : v2 = .int i := by unfold Rep at rv2; exact rv2
      subst e
      obtain ⟨y, hy, ry⟩ := q3.atI' hw
      exact ⟨a, vs, i, y, rfl, rfl, .inl (.inl q2), hy, w3.here ok2 y ry⟩
    · exact w2.elim
  · exact w2.elim
theorem s_ixR {o i e : Expr} {f g h : DE} {pos' : Pos} (ho : PE X o (tD X.K xs wx f)) (hi : PE X i (tD X.K xs wx g)) (he : PE X e (tD X.K xs wx h)) (hs : swapsWithSole [.Subscript o i pos'] e pos.line X.env = Pure.pure false := by rfl) (hw : swappedStores [.Subscript o i pos'] e X.env = Pure.pure none := by rfl)
    (h1 : (assignEach [.Subscript o i pos'] X.env).map (·.2) = [assign (.Subscript o i pos') X.env] := by rfl)
    (ha : ∀ v, assign (.Subscript o i pos') X.env v = (do
      let ov ← holding [v] (eval o X.env)
      let iv ← holding [v, ov] (eval i X.env)
      standAt pos'
      holding [v, ov, iv] (setItem ov iv v)
      release [v, ov, iv] []) := by intro _; rfl) : PS X (.Assign [.Subscript o i pos'] e pos) (tDS X.K xs wx (rF f g h)) :=
  gG (ps_asg he (pg_sub ho hi set_list ha) hs hw h1) fun D sg H q => by
    obtain ⟨F, io, st, env, fr, w⟩ := q
    refine ⟨Gs F env sg, io, st, env, fr.ok, fr.er, (aV.expr fr w).aX fun st1 io1 H1 v ok1 e1 z x rx => ?_⟩
    refine ⟨Gs F env sg, io1, st1, env, z.1.ok, z.1.er, (aV.expr z.1 z.2).aX fun st2 io2 H2 u ok2 e2 z2 y ry => ?_⟩
    refine ⟨Gs F env sg, io2, st2, env, z2.1.ok, z2.1.er, (aV.expr z2.1 z2.2).aX fun st3 io3 H3 k ok3 e3 z3 t rt => ?_⟩
    have z4 := z3.2
    split at z4
    · rename_i n i
      split at z4
      · rename_i us hu
        split at z4
        · rename_i j hj
          obtain ⟨a, vs, rfl, q1, q2, q3⟩ := mH ok3 hu (ry.ext e3)
          have et : t = .int i := by unfold Rep at rt; exact rt
          subst et
          refine ⟨a, vs, i, j, rfl, rfl, q2, by rw [← q3.length]; exact hj, ?_⟩
          obtain ⟨f4, e4⟩ := z3.1.turnRef hu q1 (q3.set j ((rx.ext e2).ext e3))
          exact z4 _ _ _ f4 e4
        · exact z4.elim
      · exact z4.elim
    · exact z4.elim
end
@[simp] theorem refL_ap (f : DL) (env : Env) (st : Store) : refL f env st = (f env st).bind fun us st1 => .ok (.ref st1.length) (st1 ++ [.lst us]) := (rfl)
@[simp] theorem ixR_ap (f g : DE) (env : Env) (st : Store) : ixR f g env st = (f env st).bind fun u st1 => (g env st1).bind fun v st2 => match u, v with
  | .ref n, .int i => match st2[n]? with
    | some (.lst us) => Rs.of (atI us i) st2
    | _ => .bad
  | _, _ => .bad := (rfl)
@[simp] theorem sIxR_ap (f g e : DE) (env : Env) (st : Store) : rF f g e env st = (e env st).out env fun v st1 => (f env st1).out env fun u st2 => (g env st2).out env fun k st3 => match u, k with
  | .ref n, .int i => match st3[n]? with
    | some (.lst us) => match ixN us.length i with
      | some j => .nx env (st3.set n (.lst (us.set j v)))
      | none => .bad
    | _ => .bad
  | _, _ => .bad := (rfl)
noncomputable def cut3 (u : U) (lo hi : Option Int) : Option (List U) := match u with
  | .lst us => some (bx us lo hi)
  | .scr ns => some ((bx ns lo hi).map U.int)
  | _ => none
noncomputable def slL (f : DE) (a b : DO) : DL := fun env st => (f env st).bind fun u st1 => (a env st1).bind fun l st2 => (b env st2).bind fun h st3 => Rs.of (cut3 u l h) st3
@[simp] theorem slL_ap (f : DE) (a b : DO) (env : Env) (st : Store) : slL f a b env st = (f env st).bind fun u st1 => (a env st1).bind fun l st2 => (b env st2).bind fun h st3 => Rs.of (cut3 u l h) st3 := (rfl)
@[simp] theorem cut3_lst (us : List U) (lo hi : Option Int) : cut3 (.lst us) lo hi = some (bx us lo hi) := (rfl)
@[simp] theorem cut3_scr (us : List Int) (lo hi : Option Int) : cut3 (.scr us) lo hi = some ((bx us lo hi).map U.int) := (rfl)
noncomputable def slR (f : DE) (a b : DO) : DL := fun env st => (f env st).bind fun u st1 => (a env st1).bind fun l st2 => (b env st2).bind fun h st3 => match u with
  | .ref n => match st3[n]? with
    | some (.lst us) => .ok (bx us l h) st3
    | _ => .bad
  | _ => .bad
@[simp] theorem slR_ap (f : DE) (a b : DO) (env : Env) (st : Store) : slR f a b env st = (f env st).bind fun u st1 => (a env st1).bind fun l st2 => (b env st2).bind fun h st3 => match u with
  | .ref n => match st3[n]? with
    | some (.lst us) => .ok (bx us l h) st3
    | _ => .bad
  | _ => .bad := (rfl)
noncomputable def sRetR (i : Nat) : DS := fun env st => match env[i]? with
  | some (.own us) => .rt (.ref st.length) (st ++ [.lst us])
  | _ => .bad
@[simp] theorem sRetR_ap (i : Nat) (env : Env) (st : Store) : sRetR i env st = match env[i]? with
  | some (.own us) => .rt (.ref st.length) (st ++ [.lst us])
  | _ => .bad := (rfl)
noncomputable def tupSN : List U → Option U
  | [.str x] => if x.cps.size ≤ sizeLine then some (.tup (x.cps.toList.map fun c => U.str ⟨#[c]⟩)) else none
  | _ => none
@[simp] theorem tupSN_ap (x : Str) : tupSN [.str x] = if x.cps.size ≤ 16777216 then some (.tup (x.cps.toList.map fun c => U.str ⟨#[c]⟩)) else none := by rw [← aD]; rfl
end D
namespace D
open PySem L2
noncomputable def m_ (a : Str) (u : U) : Option U := (txts u).bind fun ys => if (ys.map (·.length)).sum + ys.length * a.length ≤ 16777216 then some (.str (Txt.join a ys)) else none
noncomputable def qp (f g : DE) : DE := fun env st => (f env st).bind fun u st1 => match u with
  | .str a => (g env st1).bind fun v st2 => Rs.of (m_ a v) st2
  | _ => .bad
noncomputable def fO (u : U) : Option (List U) := (match u with
  | .lst us => bB us
  | _ => none).bind fun ys => if ys.length < 64 then some ((bT ys).map U.str) else none
noncomputable def lenR (f : DE) : DE := fun env st => (f env st).bind fun u st1 => match u with
  | .ref n => match st1[n]? with
    | some (.lst us) => .ok (.int us.length) st1
    | _ => .bad
  | _ => .bad
noncomputable def catR (f g : DE) : DL := fun env st => (f env st).bind fun u st1 => (g env st1).bind fun v st2 => match u, v with
  | .ref n, .lst ws => match st2[n]? with
    | some (.lst us) => if us.length + ws.length ≤ sizeLine then .ok (us ++ ws) st2 else .bad
    | _ => .bad
  | _, _ => .bad
noncomputable def sExtR (f g : DE) : DS := fun env st => (f env st).out env fun u st1 => match u with
  | .ref n => match st1[n]? with
    | some (.lst _) => (g env st1).out env fun v st2 => match st2[n]?, rE v with
      | some (.lst us), some ws => if us.length + ws.length ≤ sizeLine then .nx env (st2.set n (.lst (us ++ ws))) else .bad
      | _, _ => .bad
    | _ => .bad
  | _ => .bad
mutual
noncomputable def noRef : U → Bool
  | .ref _ => false
  | .tup us => bM us
  | .lst us => bM us
  | .dct _ us => bM us
  | _ => true
noncomputable def bM : List U → Bool
  | [] => true
  | u :: us => noRef u && bM us
end
noncomputable def appO (g : List U → Store → Rs U) (i : Nat) : DE := fun env st => match jh env[i]? with
  | some us => match g [.lst us] [] with
    | .ok u [] => if aY u && bM us then .ok u st else .bad
    | _ => .bad
  | none => .bad
noncomputable def binOL (g : U → U → Option U) (i : Nat) (fb : DE) : DE := fun env st => match jh env[i]? with
  | some us => (fb env st).bind fun v st1 => Rs.of (eO (g (.lst us) v)) st1
  | none => .bad
noncomputable def sPop (i : Nat) : DS := fun env st => match env[i]? with
  | some (.own us) => if 0 < us.length then .nx (env.set i (.own us.dropLast)) st else .bad
  | _ => .bad
section
variable {X : Cx} {xs : XS} {wx : WX} {pos : Pos}
theorem d_join {o e : Expr} {f g : DE} {apos : Pos} (ho : PE X o (tD X.K xs wx f)) (he : PE X e (tD X.K xs wx g)) (hs : starEach [e] X.env = [(false, eval e X.env)] := by rfl) (hbase : attributeBase o "join" X.env (eval o X.env) = eval o X.env := by rfl) (hline : (apos.endLine == pos.line) = true := by rfl) :
    PE X (.Call (.Attribute o "join" apos) [e] [] pos) (tD X.K xs wx (qp f g)) := aW (pe_join ho he hs hbase hline) fun sg H Q h => by
  obtain ⟨G, io, st, env, ok, er, w⟩ := h
  refine ⟨G, io, st, env, ok, er, w.bind.aX fun st1 io1 H1 u ok1 e1 w1 v rv => ?_⟩
  cases u with
  | str a =>
    have ev := rv.a_
    subst ev
    refine ⟨⟨a, rfl⟩, G, io1, st1, env, ok1, er.ext ok.dj e1, (aM.bind w1).aX fun st2 io2 H2 u2 ok2 e2 w2 v2 rv2 => ?_⟩
    obtain ⟨r, hr, w3⟩ := w2.pure
    unfold m_ at hr
    rw [Option.bind_eq_some_iff] at hr
    obtain ⟨ys, hy, hr⟩ := hr
    split at hr
    · rename_i hz
      cases hr
      obtain ⟨l, rfl, sq⟩ := tK rv2 hy
      exact ⟨a, l, ys, rfl, rfl, sq, hz, w3.here ok2 _ (rStr _)⟩
    · cases hr
  | _ => exact w1.elim
theorem uX {e : Expr} {p : Pos} {f : DE} (hg : Gl X "sorted") (hm : X.mg "sorted" = none) (he : PE X e (tD X.K xs wx f)) (hs : starEach [e] X.env = (false, eval e X.env) :: starEach [] X.env := by rfl) :
    PE X (.Call (.Name "sorted" p) [e] [] pos) (tDL X.K xs wx (itE fO f)) := by
  refine aW (pe_callB (pos := pos) (p := p) cr_sortedS hg hm kE (pa_cons he pa_nil hs) (by decide) (by decide) hs rfl) fun sg H Q h => ?_
  obtain ⟨G, io, st, env, ok, er, w⟩ := h
  refine ⟨G, io, st, env, ok, er, w.bind.aX fun st1 io1 H1 u ok1 e1 w1 v rv => ?_⟩
  obtain ⟨ws, hu, w2⟩ := w1.pure
  unfold fO at hu
  rw [Option.bind_eq_some_iff] at hu
  obtain ⟨ys, hy, hu⟩ := hu
  split at hu
  · rename_i hz
    cases hu
    cases u with
    | lst us =>
      obtain ⟨l, vs, rfl, ll, rr⟩ := rv.bz
      have hy : bB us = some ys := hy
      rw [gK hy] at rr
      rw [aq.ofStrs rr] at ll
      refine ⟨l, ys, rfl, ll.sq, hz, fun zs q pm hs hq => ?_⟩
      rw [sort_unique hs pm]
      exact w2.here ok1 _ q (aq.strs _) hq
    | _ => cases hy
  · cases hu
end
@[simp] theorem joinD_ap (f g : DE) (env : Env) (st : Store) : qp f g env st = (f env st).bind fun u st1 => match u with
  | .str a => (g env st1).bind fun v st2 => Rs.of (m_ a v) st2
  | _ => .bad := (rfl)
@[simp] theorem lenR_ap (f : DE) (env : Env) (st : Store) : lenR f env st = (f env st).bind fun u st1 => match u with
  | .ref n => match st1[n]? with
    | some (.lst us) => .ok (.int us.length) st1
    | _ => .bad
  | _ => .bad := (rfl)
@[simp] theorem catR_ap (f g : DE) (env : Env) (st : Store) : catR f g env st = (f env st).bind fun u st1 => (g env st1).bind fun v st2 => match u, v with
  | .ref n, .lst ws => match st2[n]? with
    | some (.lst us) => if us.length + ws.length ≤ sizeLine then .ok (us ++ ws) st2 else .bad
    | _ => .bad
  | _, _ => .bad := (rfl)
@[simp] theorem sExtR_ap (f g : DE) (env : Env) (st : Store) : sExtR f g env st = (f env st).out env fun u st1 => match u with
  | .ref n => match st1[n]? with
    | some (.lst _) => (g env st1).out env fun v st2 => match st2[n]?, rE v with
      | some (.lst us), some ws => if us.length + ws.length ≤ sizeLine then .nx env (st2.set n (.lst (us ++ ws))) else .bad
      | _, _ => .bad
    | _ => .bad
  | _ => .bad := (rfl)
@[simp] theorem appO_ap (g : List U → Store → Rs U) (i : Nat) (env : Env) (st : Store) : appO g i env st = match jh env[i]? with
  | some us => match g [.lst us] [] with
    | .ok u [] => if aY u && bM us then .ok u st else .bad
    | _ => .bad
  | none => .bad := (rfl)
@[simp] theorem binOL_ap (g : U → U → Option U) (i : Nat) (fb : DE) (env : Env) (st : Store) : binOL g i fb env st = match jh env[i]? with
  | some us => (fb env st).bind fun v st1 => Rs.of (eO (g (.lst us) v)) st1
  | none => .bad := (rfl)
@[simp] theorem sPop_ap (i : Nat) (env : Env) (st : Store) : sPop i env st = match env[i]? with
  | some (.own us) => if 0 < us.length then .nx (env.set i (.own us.dropLast)) st else .bad
  | _ => .bad := (rfl)
end D
namespace D
open PySem L2
noncomputable def sIxO (i : Nat) (g e : DE) : DS := fun env st => (e env st).out env fun v st1 => match env[i]? with
  | some (.own us) => (g env st1).out env fun k st2 => match k with
    | .int n => match ixN us.length n with
      | some j => .nx (env.set i (.own (us.set j v))) st2
      | none => .bad
    | _ => .bad
  | _ => .bad
@[simp] theorem sIxO_ap (i : Nat) (g e : DE) (env : Env) (st : Store) : sIxO i g e env st = (e env st).out env fun v st1 => match env[i]? with
  | some (.own us) => (g env st1).out env fun k st2 => match k with
    | .int n => match ixN us.length n with
      | some j => .nx (env.set i (.own (us.set j v))) st2
      | none => .bad
    | _ => .bad
  | _ => .bad := (rfl)
section
variable {K : PySem.W.Frag} {F G : Addr → Prop} {io : List Addr} {st : Store} {env : Env} {sg : L2.St} {H : Hp}
theorem Fr.tL (f : Fr K F io st env sg H) {n : Nat} {ob ob' : Ob} {o' : HO} {a : Addr} (h1 : st[n]? = some ob) (h2 : io[n]? = some a) (hx : NX o')
    (new : b_ (Gs F env sg) io H (Gs F env sg) io (upd H a o') → jg K (Wf (Gs F env sg) io) io (upd H a o') a ob') :
    Fr K F io (st.set n ob') env sg (upd H a o') ∧ cG io H (Ow env sg) io (upd H a o') (Ow env sg) := by
  have ha : a ∈ io := List.mem_of_getElem? h2
  have hn : n < st.length := (List.getElem?_eq_some_iff.mp h1).1
  have keep : ∀ b o, b ≠ a → H b = some o → (upd H a o') b = some o := fun b o q h => by rw [upd_ne q]; exact h
  have ex : cG io H (Ow env sg) io (upd H a o') (Ow env sg) := ⟨⟨[], by simp, fun _ h => nomatch h⟩, fun b o q _ h => keep b o (fun e => q (e ▸ ha)) h, fun b o h => by
    by_cases e : b = a
    · subst e; exact ⟨_, upd_same⟩
    · exact ⟨o, keep b o e h⟩, fun b h => .inl h⟩
  have m := ex.mono (F := F)
  have nG : ∀ b, Gs F env sg b → b ≠ a := fun b hb e => f.ok.dj a ha (e ▸ hb)
  have nxa : ∀ (dd : Addr) (ws : List (Str × V)), H dd = some (.xd ws) → dd ≠ a := fun dd ws z e => by
    subst e
    obtain ⟨o, e1, x⟩ := f.ok.trk dd (.inr ha)
    rw [z] at e1; cases e1; exact x ws rfl
  refine ⟨⟨⟨f.ok.nd, f.ok.dj, fun b h => ?_, by simp [f.ok.len], fun k ob b e1 e2 => ?_⟩, ⟨f.er.len, fun j sl o g1 g2 => ?_⟩, f.nF, f.dd⟩, ex⟩
  · obtain ⟨o, e, x⟩ := f.ok.trk b h
    by_cases hb : b = a
    · subst hb; exact ⟨_, upd_same, hx⟩
    · exact ⟨o, keep b o hb e, x⟩
  · by_cases hk : n = k
    · subst hk
      rw [List.getElem?_set_self hn] at e1
      rw [h2] at e2
      cases e1; cases e2
      exact new m
    · rw [List.getElem?_set_ne hk] at e1
      have nb : b ≠ a := fun e => by
        subst e
        exact hk ((List.getElem?_inj (List.getElem?_eq_some_iff.mp h2).1 f.ok.nd).mp (h2.trans e2.symm))
      exact (f.ok.obs k ob b e1 e2).mono m (fun u q => keep b u nb q) fun dd ws q => keep dd _ (nxa dd ws q) q
  · have q := f.er.sl j sl o g1 g2
    cases sl with
    | un => trivial
    | val u' => obtain ⟨v', q1, q2⟩ := q; exact ⟨v', q1, q2.mono m⟩
    | own w =>
      obtain ⟨b, vs1, q1, q2, q3, q4⟩ := q
      exact ⟨b, vs1, q1, q2, keep _ _ (nG b q2) q3, q4.mono m⟩
noncomputable def cM (x : Str) (v : U) : List (Str × U) → List (Str × U)
  | [] => [(x, v)]
  | (g, y) :: r => if g = x then (g, v) :: r else (g, y) :: cM x v r
end
noncomputable def fldD (cs : List Str) (x : Str) (f : DE) : DE := fun env st => (f env st).bind fun u st1 => match u with
  | .ref n => match st1[n]? with
    | some (.obj c fs) => if c ∈ cs then Rs.of (fs.lookup x) st1 else .bad
    | _ => .bad
  | _ => .bad
noncomputable def sFldS (cs : List Str) (x : Str) (f e : DE) : DS := fun env st => (e env st).out env fun v st1 => (f env st1).out env fun u st2 => match u with
  | .ref n => match st2[n]? with
    | some (.obj c fs) => if c ∈ cs ∧ fs.length < 1000 then .nx env (st2.set n (.obj c (cM x v fs))) else .bad
    | _ => .bad
  | _ => .bad
noncomputable def mkO (c : Str) (g : List U → Store → Rs U) (fa : DA) : DE := fun env st => (fa env st).bind fun us st1 => (g (.ref st1.length :: us) (st1 ++ [.obj c []])).bind fun u st2 => match u with
  | .non => .ok (.ref st1.length) st2
  | _ => .bad
noncomputable def mtD (alts : List (Str × (List U → Store → Rs U))) (m : Str) (f : DE) (fa : DA) : DE := fun env st => (f env st).bind fun u st1 => match u with
  | .ref n => match st1[n]? with
    | some (.obj c fs) => match alts.lookup c, fs.lookup m with
      | some g, none => (fa env st1).bind fun us st2 => g (.ref n :: us) st2
      | _, _ => .bad
    | _ => .bad
  | _ => .bad
structure Mt (P : Program) (w : World) (K : PySem.W.Frag) (mg : Str → Option Value) (base : Heap) (xs : XS) (c m : Str) (k n : Nat) (g : List U → Store → Rs U) : Prop where
  ex : ∃ C f fd ps, clsAt K c = some C ∧ Cls K C ∧ Meth K C m f ∧ Binds K fd ps [] ∧ FnOk P w K mg base (L2.CX P w) k f fd ps (spD K xs n g)
  bad : ∀ us st, us.length ≠ n → g us st = .bad
noncomputable def Mts (P : Program) (w : World) (K : PySem.W.Frag) (mg : Str → Option Value) (base : Heap) (xs : XS) (m : Str) (k : Nat) (alts : List (Str × (List U → Store → Rs U))) : Prop := ∀ p ∈ alts, clsAt K p.1 = none ∨ ∃ k' n, k' ≤ k ∧ Mt P w K mg base xs p.1 m k' n p.2
section
variable {P : Program} {w : World} {K : PySem.W.Frag} {mg : Str → Option Value} {base : Heap} {xs : XS} {m : Str} {k : Nat}
theorem Mts.at {alts : List (Str × (List U → Store → Rs U))} {c : Str} {g : List U → Store → Rs U} (h : Mts P w K mg base xs m k alts) (e : alts.lookup c = some g) : clsAt K c = none ∨ ∃ k' n, k' ≤ k ∧ Mt P w K mg base xs c m k' n g := by
  induction alts with
  | nil => cases e
  | cons p r ih =>
    rw [show p = (p.1, p.2) from rfl, List.lookup_cons] at e
    cases q : c == p.1 with
    | true =>
      rw [q] at e
      simp only at e
      cases e
      have : c = p.1 := eq_of_beq q
      rw [this]
      exact h p (List.mem_cons_self ..)
    | false => rw [q] at e; exact ih (fun p hp => h p (List.mem_cons_of_mem _ hp)) e
end
@[simp] theorem fldD_ap (cs : List Str) (x : Str) (f : DE) (env : Env) (st : Store) : fldD cs x f env st = (f env st).bind fun u st1 => match u with
  | .ref n => match st1[n]? with
    | some (.obj c fs) => if c ∈ cs then Rs.of (fs.lookup x) st1 else .bad
    | _ => .bad
  | _ => .bad := (rfl)
@[simp] theorem sFldS_ap (cs : List Str) (x : Str) (f e : DE) (env : Env) (st : Store) : sFldS cs x f e env st = (e env st).out env fun v st1 => (f env st1).out env fun u st2 => match u with
  | .ref n => match st2[n]? with
    | some (.obj c fs) => if c ∈ cs ∧ fs.length < 1000 then .nx env (st2.set n (.obj c (cM x v fs))) else .bad
    | _ => .bad
  | _ => .bad := (rfl)
@[simp] theorem mkO_ap (c : Str) (g : List U → Store → Rs U) (fa : DA) (env : Env) (st : Store) : mkO c g fa env st = (fa env st).bind fun us st1 => (g (.ref st1.length :: us) (st1 ++ [.obj c []])).bind fun u st2 => match u with
  | .non => .ok (.ref st1.length) st2
  | _ => .bad := (rfl)
@[simp] theorem mtD_ap (alts : List (Str × (List U → Store → Rs U))) (m : Str) (f : DE) (fa : DA) (env : Env) (st : Store) : mtD alts m f fa env st = (f env st).bind fun u st1 => match u with
  | .ref n => match st1[n]? with
    | some (.obj c fs) => match alts.lookup c, fs.lookup m with
      | some g, none => (fa env st1).bind fun us st2 => g (.ref n :: us) st2
      | _, _ => .bad
    | _ => .bad
  | _ => .bad := (rfl)
section
variable {X : Cx} {xs : XS} {wx : WX} {pos : Pos}
noncomputable def putAll (cs : List Str) (f : DE) : List Str → List U → DS
  | [], [], env, st => .nx env st
  | x :: ns, u :: us, env, st => (f env st).out env fun o st1 => match o with
    | .ref n => match st1[n]? with
      | some (.obj c fs) => if c ∈ cs ∧ fs.length < 1000 then putAll cs f ns us env (st1.set n (.obj c (cM x u fs))) else .bad
      | _ => .bad
    | _ => .bad
  | _, _, _, _ => .bad
noncomputable def sFldT (cs : List Str) (ns : List Str) (f e : DE) : DS := fun env st => (e env st).out env fun v st1 => match v with
  | .tup us => if us.length = ns.length then putAll cs f ns us env st1 else .bad
  | _ => .bad
end
noncomputable def oZ : List U → Option (List Key)
  | [] => some []
  | u :: us => match kOf u, oZ us with
    | some k, some l => some (k :: l)
    | _, _ => none
noncomputable def keyT : U → Option (List Key)
  | .tup us => oZ us
  | _ => none
noncomputable def keysT : List U → Option (List (List Key))
  | [] => some []
  | u :: us => match keyT u, keysT us with
    | some k, some l => some (k :: l)
    | _, _ => none
noncomputable def vA (k : List Key) : List (List Key) → List U → Option U
  | j :: ks, u :: us => if j = k then some u else vA k ks us
  | _, _ => none
noncomputable def dTof : U → Option (List (List Key) × List U)
  | .dct (k0 :: ks) us => (keysT (k0 :: ks)).map fun kk => (kk, us)
  | _ => none
noncomputable def getTD (f : DE) (ka : DA) (g : DE) : DE := fun env st => (f env st).bind fun u st1 => match dTof u with
  | some (kk, us) => (ka env st1).bind fun key st2 => if key.length ≤ sizeLine then (g env st2).bind fun d st3 => match oZ key with
    | some k => .ok ((vA k kk us).getD d) st3
    | none => .bad
    else .bad
  | none => .bad
section
variable {X : Cx} {xs : XS} {wx : WX} {pos : Pos}
noncomputable def u5 : List (List U × U) → Option (List (List Key × U))
  | [] => some []
  | p :: r => match oZ p.1, u5 r with
    | some k, some l => some ((k, p.2) :: l)
    | _, _ => none
noncomputable def vK (l : List (List U × U)) : Option U := (u5 l).bind fun kvs => if (kvs.length ≤ 15 ∧ (kvs.map (·.1)).Nodup) ∧ kvs ≠ [] then some (.dct (kvs.map fun p => .tup (p.1.map kU)) (kvs.map (·.2))) else none
noncomputable def oN : List (DA × DE) → Env → Store → Rs (List (List U × U))
  | [], _, st => .ok [] st
  | p :: r, env, st => (p.1 env st).bind fun k st1 => if k.length ≤ sizeLine then (p.2 env st1).bind fun v st2 => (oN r env st2).bind fun l st3 => .ok ((k, v) :: l) st3 else .bad
noncomputable def dispT (ps : List (DA × DE)) : DE := fun env st => (dD (oN ps env st)).bind fun l st1 => Rs.of (vK l) st1
end
@[simp] theorem getTD_ap (f : DE) (ka : DA) (g : DE) (env : Env) (st : Store) : getTD f ka g env st = (f env st).bind fun u st1 => match dTof u with
  | some (kk, us) => (ka env st1).bind fun key st2 => if key.length ≤ 16777216 then (g env st2).bind fun d st3 => match oZ key with
    | some k => .ok ((vA k kk us).getD d) st3
    | none => .bad
    else .bad
  | none => .bad := by rw [← aD]; rfl
@[simp] theorem sFldT_ap (cs ns : List Str) (f e : DE) (env : Env) (st : Store) : sFldT cs ns f e env st = (e env st).out env fun v st1 => match v with
  | .tup us => if us.length = ns.length then putAll cs f ns us env st1 else .bad
  | _ => .bad := (rfl)
@[simp] theorem dispT_ap (ps : List (DA × DE)) (env : Env) (st : Store) : dispT ps env st = (dD (oN ps env st)).bind fun l st1 => Rs.of (vK l) st1 := (rfl)
end D
namespace D
open PySem L2
noncomputable def ji (st : Store) : U → U
  | .ref n => match st[n]? with
    | some (.lst us) => .lst us
    | _ => .ref n
  | u => u
mutual
noncomputable def tM : U → Bool
  | .non => true
  | .bl _ => true
  | .int _ => true
  | .str _ => true
  | .tup us => tupUs us
  | _ => false
noncomputable def tupUs : List U → Bool
  | [] => true
  | u :: us => tM u && tupUs us
end
noncomputable def appV (g : List U → Store → Rs U) (fa : DA) : DE := fun env st => (fa env st).bind fun us st1 => if bM (us.map (ji st1)) = true then match g (us.map (ji st1)) [] with
  | .ok u [] => if tM u = true then .ok u st1 else .bad
  | _ => .bad
  else .bad
noncomputable def binV (g : U → U → Option U) (a b : DE) : DE := fun env st => (a env st).bind fun u st1 => (b env st1).bind fun v st2 => if noRef (ji st2 u) = true ∧ noRef (ji st2 v) = true then Rs.of (eO (g (ji st2 u) (ji st2 v))) st2 else .bad
noncomputable def tupR (f : DE) : DE := fun env st => (f env st).bind fun u st1 => match u with
  | .ref n => match st1[n]? with
    | some (.lst us) => .ok (.tup us) st1
    | _ => .bad
  | _ => .bad
noncomputable def sAppR (f g : DE) : DS := fun env st => (f env st).out env fun u st1 => match u with
  | .ref n => match st1[n]? with
    | some (.lst _) => (g env st1).out env fun v st2 => match st2[n]? with
      | some (.lst us) => if us.length < sizeLine then .nx env (st2.set n (.lst (us ++ [v]))) else .bad
      | _ => .bad
    | _ => .bad
  | _ => .bad
noncomputable def popR (f g : DE) : DE := fun env st => (f env st).bind fun u st1 => match u with
  | .ref n => match st1[n]? with
    | some (.lst _) => (g env st1).bind fun v st2 => match v, st2[n]? with
      | .int i, some (.lst us) => if -(2 ^ 63) ≤ i ∧ i < 2 ^ 63 then match seqIndex? i us.length with
        | some k => match us[k]? with
          | some y => .ok y (st2.set n (.lst (us.eraseIdx k)))
          | none => .bad
        | none => .bad
        else .bad
      | _, _ => .bad
    | _ => .bad
  | _ => .bad
section
variable {K : PySem.W.Frag} {F G : Addr → Prop} {io : List Addr} {st : Store} {H : Hp}
theorem Ok.tL (f : Ok K G io st H) {n : Nat} {ob ob' : Ob} {o' : HO} {a : Addr} (h1 : st[n]? = some ob) (h2 : io[n]? = some a) (hx : NX o')
    (new : b_ G io H G io (upd H a o') → jg K (Wf G io) io (upd H a o') a ob') : Ok K G io (st.set n ob') (upd H a o') ∧ Ext io H io (upd H a o') := by
  have ha : a ∈ io := List.mem_of_getElem? h2
  have hn : n < st.length := (List.getElem?_eq_some_iff.mp h1).1
  have keep : ∀ b o, b ≠ a → H b = some o → (upd H a o') b = some o := fun b o q h => by rw [upd_ne q]; exact h
  have ex : Ext io H io (upd H a o') := ⟨⟨[], by simp, fun _ h => nomatch h⟩, fun b o q h => keep b o (fun e => q (e ▸ ha)) h, fun b o h => by
    by_cases e : b = a
    · subst e; exact ⟨_, upd_same⟩
    · exact ⟨o, keep b o e h⟩⟩
  have m := ex.mono (G := G)
  have nxa : ∀ (dd : Addr) (ws : List (Str × V)), H dd = some (.xd ws) → dd ≠ a := fun dd ws z e => by
    subst e
    obtain ⟨o, e1, x⟩ := f.trk dd (.inr ha)
    rw [z] at e1; cases e1; exact x ws rfl
  refine ⟨⟨f.nd, f.dj, fun b h => ?_, by simp [f.len], fun k ob b e1 e2 => ?_⟩, ex⟩
  · obtain ⟨o, e, x⟩ := f.trk b h
    by_cases hb : b = a
    · subst hb; exact ⟨_, upd_same, hx⟩
    · exact ⟨o, keep b o hb e, x⟩
  · by_cases hk : n = k
    · subst hk
      rw [List.getElem?_set_self hn] at e1
      rw [h2] at e2
      cases e1; cases e2
      exact new m
    · rw [List.getElem?_set_ne hk] at e1
      have nb : b ≠ a := fun e => by
        subst e
        exact hk ((List.getElem?_inj (List.getElem?_eq_some_iff.mp h2).1 f.nd).mp (h2.trans e2.symm))
      exact (f.obs k ob b e1 e2).mono m (fun u q => keep b u nb q) fun dd ws q => keep dd _ (nxa dd ws q) q
end
end D
namespace D
open PySem L2
noncomputable def refD0 : DE := fun _ st => .ok (.ref st.length) (st ++ [.dct [] []])
noncomputable def kvsOf (ks us : List U) : Option (List (Key × U)) := if ks.length = us.length then (oZ ks).map fun kk => kk.zip us else none
noncomputable def d_ (kvs : List (Key × U)) : Ob := .dct (kvs.map fun p => kU p.1) (kvs.map (·.2))
noncomputable def gj (kvs : List (Key × U)) (k : Key) : Option U := (kvs.find? fun kv => decide (kv.1 = k)).map (·.2)
noncomputable def sDPut (f g e : DE) : DS := fun env st => (e env st).out env fun v st1 => (f env st1).out env fun u st2 => (g env st2).out env fun k st3 => match u with
  | .ref n => match st3[n]?, kOf k with
    | some (.dct ks us), some kk => match kvsOf ks us with
      | some kvs => if kvs.length < sizeLine then .nx env (st3.set n (d_ (rJ kvs kk v))) else .bad
      | none => .bad
    | _, _ => .bad
  | _ => .bad
noncomputable def lenDR (f : DE) : DE := fun env st => (f env st).bind fun u st1 => match u with
  | .ref n => match st1[n]? with
    | some (.dct ks _) => .ok (.int ks.length) st1
    | _ => .bad
  | _ => .bad
section
variable {K : PySem.W.Frag} {G : Addr → Prop} {W : Addr → Prop} {io : List Addr} {st : Store} {H : Hp}
theorem KR.val {k : Key} : ∀ {a : List (Key × U)} {b : List (Key × V)}, KR K W io H a b → match valV b k with
    | some v => ∃ u, gj a k = some u ∧ Rep K W io H u v
    | none => gj a k = none
  | _, _, .nil => rfl
  | _, _, .cons (a := p) (b := q) h t => by
    by_cases e : q.1 = k
    · rw [valV_pos e]
      refine ⟨p.2, ?_, h.2⟩
      unfold gj
      rw [List.find?_cons, h.1, decide_eq_true e]
      rfl
    · rw [valV_neg e]
      have := KR.val (k := k) t
      have ee : ∀ r, gj (p :: r) k = gj r k := fun r => by
        unfold gj
        rw [List.find?_cons, h.1, decide_eq_false e]
      rw [ee]
      exact this
end
noncomputable def splitL (f g : DE) : DL := fun env st => (f env st).bind fun u st1 => match u with
  | .str a => (g env st1).bind fun v st2 => match v with
    | .str b => if (b.length == 0) = false ∧ a.length + 2 ≤ sizeLine then .ok ((Txt.split a b).map U.str) st2 else .bad
    | _ => .bad
  | _ => .bad
noncomputable def cntD (f g : DE) : DE := fun env st => (f env st).bind fun u st1 => match u with
  | .lst us => (g env st1).bind fun v st2 => match bB us, v with
    | some ws, .str k => .ok (.int (ws.count k : Nat)) st2
    | _, _ => .bad
  | _ => .bad
section
variable {X : Cx} {xs : XS} {wx : WX} {pos : Pos} {tg : Expr}
noncomputable def viewE (env : Env) : Env := env.map fun s => match s with
  | .val u => if noRef u = true then .val u else .un
  | _ => .un
noncomputable def compV (f : DE) (vs : List Nat) (t : Tg) (c : DT) (e : DE) : DL := fun env st => (f env st).bind fun u st1 => match u with
  | .ref n => match st1[n]? with
    | some (.lst us) => if us.length ≤ sizeLine ∧ bM us = true then match dD (bu t c e us (bR (viewE env) vs) []) with
      | .ok ws [] => if ws.all aY = true then .ok ws st1 else .bad
      | _ => .bad
      else .bad
    | _ => .bad
  | _ => .bad
end
@[simp] theorem appV_ap (g : List U → Store → Rs U) (fa : DA) (env : Env) (st : Store) : appV g fa env st = (fa env st).bind fun us st1 => if bM (us.map (ji st1)) = true then match g (us.map (ji st1)) [] with
  | .ok u [] => if tM u = true then .ok u st1 else .bad
  | _ => .bad
  else .bad := (rfl)
@[simp] theorem binV_ap (g : U → U → Option U) (a b : DE) (env : Env) (st : Store) : binV g a b env st = (a env st).bind fun u st1 => (b env st1).bind fun v st2 => if noRef (ji st2 u) = true ∧ noRef (ji st2 v) = true then Rs.of (eO (g (ji st2 u) (ji st2 v))) st2 else .bad := (rfl)
@[simp] theorem tupR_ap (f : DE) (env : Env) (st : Store) : tupR f env st = (f env st).bind fun u st1 => match u with
  | .ref n => match st1[n]? with
    | some (.lst us) => .ok (.tup us) st1
    | _ => .bad
  | _ => .bad := (rfl)
@[simp] theorem sAppR_ap (f g : DE) (env : Env) (st : Store) : sAppR f g env st = (f env st).out env fun u st1 => match u with
  | .ref n => match st1[n]? with
    | some (.lst _) => (g env st1).out env fun v st2 => match st2[n]? with
      | some (.lst us) => if us.length < 16777216 then .nx env (st2.set n (.lst (us ++ [v]))) else .bad
      | _ => .bad
    | _ => .bad
  | _ => .bad := by rw [← aD]; rfl
@[simp] theorem popR_ap (f g : DE) (env : Env) (st : Store) : popR f g env st = (f env st).bind fun u st1 => match u with
  | .ref n => match st1[n]? with
    | some (.lst _) => (g env st1).bind fun v st2 => match v, st2[n]? with
      | .int i, some (.lst us) => if -(2 ^ 63) ≤ i ∧ i < 2 ^ 63 then match seqIndex? i us.length with
        | some k => match us[k]? with
          | some y => .ok y (st2.set n (.lst (us.eraseIdx k)))
          | none => .bad
        | none => .bad
        else .bad
      | _, _ => .bad
    | _ => .bad
  | _ => .bad := (rfl)
@[simp] theorem refD0_ap (env : Env) (st : Store) : refD0 env st = .ok (.ref st.length) (st ++ [.dct [] []]) := (rfl)
@[simp] theorem sDPut_ap (f g e : DE) (env : Env) (st : Store) : sDPut f g e env st = (e env st).out env fun v st1 => (f env st1).out env fun u st2 => (g env st2).out env fun k st3 => match u with
  | .ref n => match st3[n]?, kOf k with
    | some (.dct ks us), some kk => match kvsOf ks us with
      | some kvs => if kvs.length < 16777216 then .nx env (st3.set n (d_ (rJ kvs kk v))) else .bad
      | none => .bad
    | _, _ => .bad
  | _ => .bad := by rw [← aD]; rfl
@[simp] theorem lenDR_ap (f : DE) (env : Env) (st : Store) : lenDR f env st = (f env st).bind fun u st1 => match u with
  | .ref n => match st1[n]? with
    | some (.dct ks _) => .ok (.int ks.length) st1
    | _ => .bad
  | _ => .bad := (rfl)
@[simp] theorem splitL_ap (f g : DE) (env : Env) (st : Store) : splitL f g env st = (f env st).bind fun u st1 => match u with
  | .str a => (g env st1).bind fun v st2 => match v with
    | .str b => if (b.length == 0) = false ∧ a.length + 2 ≤ 16777216 then .ok ((Txt.split a b).map U.str) st2 else .bad
    | _ => .bad
  | _ => .bad := by rw [← aD]; rfl
@[simp] theorem cntD_ap (f g : DE) (env : Env) (st : Store) : cntD f g env st = (f env st).bind fun u st1 => match u with
  | .lst us => (g env st1).bind fun v st2 => match bB us, v with
    | some ws, .str k => .ok (.int (ws.count k : Nat)) st2
    | _, _ => .bad
  | _ => .bad := (rfl)
@[simp] theorem compV_ap (f : DE) (vs : List Nat) (t : Tg) (c : DT) (e : DE) (env : Env) (st : Store) : compV f vs t c e env st = (f env st).bind fun u st1 => match u with
  | .ref n => match st1[n]? with
    | some (.lst us) => if us.length ≤ 16777216 ∧ bM us = true then match dD (bu t c e us (bR (viewE env) vs) []) with
      | .ok ws [] => if ws.all aY = true then .ok ws st1 else .bad
      | _ => .bad
      else .bad
    | _ => .bad
  | _ => .bad := by rw [← aD]; rfl
section
variable {X : Cx} {pins : List (Addr × Obj)} {sg : L2.St} {H : Hp} {s : Shared} {W : Addr → Prop} {io : List Addr}
noncomputable def DK (H : Hp) (a : Addr) (kvs : List (Key × V)) : Prop := Rd H a (.dK kvs) ∨ (H a = some (.dT []) ∧ kvs = [])
theorem DK.inj {a : Addr} {k1 k2 : List (Key × V)} (h1 : DK H a k1) (h2 : DK H a k2) : k1 = k2 := by
  rcases h1 with (h | ⟨o, h⟩) | ⟨h, rfl⟩ <;> rcases h2 with (g | ⟨o', g⟩) | ⟨g, rfl⟩ <;> rw [h] at g <;> first | (cases g; rfl) | cases g
end
noncomputable def pA : Nat → Store → U → U
  | 0, _, u => u
  | n + 1, st, .ref k => match st[k]? with
    | some (.lst us) => .lst (us.map (pA n st))
    | some (.dct ks us) => .dct ks (us.map (pA n st))
    | some (.dcT (k0 :: ks) us) => .dct ((k0 :: ks).map U.tup) (us.map (pA n st))
    | _ => .ref k
  | n + 1, st, .tup us => .tup (us.map (pA n st))
  | n + 1, st, .lst us => .lst (us.map (pA n st))
  | n + 1, st, .dct ks us => .dct ks (us.map (pA n st))
  | _ + 1, _, u => u
noncomputable abbrev der (st : Store) (u : U) : U := pA 12 st u
noncomputable def appW (g : List U → Store → Rs U) (fa : DA) : DE := fun env st => (fa env st).bind fun us st1 => if bM (us.map (der st1)) = true then match g (us.map (der st1)) [] with
  | .ok u [] => if tM u = true then .ok u st1 else .bad
  | .ex c fs [] => .ex c fs st1
  | _ => .bad
  else .bad
noncomputable def binW (g : U → U → Option U) (a b : DE) : DE := fun env st => (a env st).bind fun u st1 => (b env st1).bind fun v st2 => if noRef (der st2 u) = true ∧ noRef (der st2 v) = true then Rs.of (eO (g (der st2 u) (der st2 v))) st2 else .bad
noncomputable def dictAt (st : Store) : U → Option (List (Key × U))
  | .dct ks us => kvsOf ks us
  | .ref n => match st[n]? with
    | some (.dct ks us) => kvsOf ks us
    | _ => none
  | _ => none
noncomputable def getG (f g e : DE) : DE := fun env st => (f env st).bind fun u st1 => match dictAt st1 u with
  | none => .bad
  | some _ => (g env st1).bind fun k st2 => (e env st2).bind fun d st3 => match dictAt st3 u, kOf k with
    | some kvs, some kk => .ok ((gj kvs kk).getD d) st3
    | _, _ => .bad
noncomputable def getU (st : Store) (u k : U) : Option U := match u with
  | .ref n => match st[n]? with
    | some (.lst us) => match k with
      | .int i => atI us i
      | _ => none
    | some (.dct ks us) => (kvsOf ks us).bind fun g => (kOf k).bind fun kk => gj g kk
    | _ => none
  | .dct ks us => (kvsOf ks us).bind fun g => (kOf k).bind fun kk => gj g kk
  | u => ix2 u k
noncomputable def ixG (f g : DE) : DE := fun env st => (f env st).bind fun u st1 => (g env st1).bind fun k st2 => Rs.of (getU st2 u k) st2
noncomputable def inU (st : Store) (k u : U) : Option Bool := match u with
  | .ref n => match st[n]? with
    | some (.dct ks us) => (kvsOf ks us).bind fun g => (kOf k).map fun kk => (gj g kk).isSome
    | _ => none
  | .dct ks us => (kvsOf ks us).bind fun g => (kOf k).map fun kk => (gj g kk).isSome
  | u => match in2 k u with
    | some (.bl b) => some b
    | _ => none
noncomputable def inG (f g : DE) : DE := fun env st => (f env st).bind fun k st1 => (g env st1).bind fun u st2 => Rs.of ((inU st2 k u).map U.bl) st2
noncomputable def ninG (f g : DE) : DE := fun env st => (f env st).bind fun k st1 => (g env st1).bind fun u st2 => Rs.of ((inU st2 k u).map fun b => U.bl (!b)) st2
noncomputable def putO (ob : Ob) (k v : U) : Option Ob := match ob with
  | .lst us => match k with
    | .int i => (ixN us.length i).map fun j => .lst (us.set j v)
    | _ => none
  | .dct ks us => (kvsOf ks us).bind fun g => (kOf k).bind fun kk => if g.length < sizeLine then some (d_ (rJ g kk v)) else none
  | _ => none
noncomputable def sPutG (f g e : DE) : DS := fun env st => (e env st).out env fun v st1 => (f env st1).out env fun u st2 => (g env st2).out env fun k st3 => match u with
  | .ref n => match st3[n]? with
    | some ob => match putO ob k v with
      | some ob' => .nx env (st3.set n ob')
      | none => .bad
    | none => .bad
  | _ => .bad
noncomputable abbrev DKv := Env → Store → Rs (List (Key × U))
noncomputable def newD (f : DKv) : DE := fun env st => (f env st).bind fun g st1 => .ok (mkD g) st1
noncomputable def refDn (f : DKv) : DE := fun env st => (f env st).bind fun g st1 => .ok (.ref st1.length) (st1 ++ [d_ g])
noncomputable def cpyK (f : DE) : DKv := fun env st => (f env st).bind fun u st1 => Rs.of (dictAt st1 u) st1
@[simp] theorem getG_ap (f g e : DE) (env : Env) (st : Store) : getG f g e env st = (f env st).bind fun u st1 => match dictAt st1 u with
  | none => .bad
  | some _ => (g env st1).bind fun k st2 => (e env st2).bind fun d st3 => match dictAt st3 u, kOf k with
    | some kvs, some kk => .ok ((gj kvs kk).getD d) st3
    | _, _ => .bad := (rfl)
@[simp] theorem ixG_ap (f g : DE) (env : Env) (st : Store) : ixG f g env st = (f env st).bind fun u st1 => (g env st1).bind fun k st2 => Rs.of (getU st2 u k) st2 := (rfl)
@[simp] theorem inG_ap (f g : DE) (env : Env) (st : Store) : inG f g env st = (f env st).bind fun k st1 => (g env st1).bind fun u st2 => Rs.of ((inU st2 k u).map U.bl) st2 := (rfl)
@[simp] theorem ninG_ap (f g : DE) (env : Env) (st : Store) : ninG f g env st = (f env st).bind fun k st1 => (g env st1).bind fun u st2 => Rs.of ((inU st2 k u).map fun b => U.bl (!b)) st2 := (rfl)
@[simp] theorem sPutG_ap (f g e : DE) (env : Env) (st : Store) : sPutG f g e env st = (e env st).out env fun v st1 => (f env st1).out env fun u st2 => (g env st2).out env fun k st3 => match u with
  | .ref n => match st3[n]? with
    | some ob => match putO ob k v with
      | some ob' => .nx env (st3.set n ob')
      | none => .bad
    | none => .bad
  | _ => .bad := (rfl)
@[simp] theorem newD_ap (f : DKv) (env : Env) (st : Store) : newD f env st = (f env st).bind fun g st1 => .ok (mkD g) st1 := (rfl)
@[simp] theorem refDn_ap (f : DKv) (env : Env) (st : Store) : refDn f env st = (f env st).bind fun g st1 => .ok (.ref st1.length) (st1 ++ [d_ g]) := (rfl)
@[simp] theorem cpyK_ap (f : DE) (env : Env) (st : Store) : cpyK f env st = (f env st).bind fun u st1 => Rs.of (dictAt st1 u) st1 := (rfl)
@[simp] theorem appW_ap (g : List U → Store → Rs U) (fa : DA) (env : Env) (st : Store) : appW g fa env st = (fa env st).bind fun us st1 => if bM (us.map (der st1)) = true then match g (us.map (der st1)) [] with
  | .ok u [] => if tM u = true then .ok u st1 else .bad
  | .ex c fs [] => .ex c fs st1
  | _ => .bad
  else .bad := (rfl)
@[simp] theorem binW_ap (g : U → U → Option U) (a b : DE) (env : Env) (st : Store) : binW g a b env st = (a env st).bind fun u st1 => (b env st1).bind fun v st2 => if noRef (der st2 u) = true ∧ noRef (der st2 v) = true then Rs.of (eO (g (der st2 u) (der st2 v))) st2 else .bad := (rfl)
structure Drw (prog : Program) (w : World) (i l : Addr) (I J : Heap → Prop) (x : Value) : Prop where
  draw : ∀ (A : Around) (E : Value → Shared → Prop) (s : Shared) (Q : Value → Shared → Prop), I s.heap → (∀ h', J h' → Heap.SameBut i s.heap h' → Q x { heap := h', gens := s.gens, drawn := s.drawn, toks := s.toks, os := s.os }) → wpAny (model prog w) A (Builtin.SmallTypes.nextOf (Value.ref i)) Q E s
  atI : ∀ h h', I h → (∀ o, h.get? i = some o → h'.get? i = some o) → (∀ o, h.get? l = some o → h'.get? l = some o) → I h'
  atJ : ∀ h h', J h → (∀ o, h.get? i = some o → h'.get? i = some o) → (∀ o, h.get? l = some o → h'.get? l = some o) → J h'
structure DrwE (prog : Program) (w : World) (i l : Addr) (I : Heap → Prop) : Prop where
  draw : ∀ (A : Around) (E : Value → Shared → Prop) (s : Shared) (Q : Value → Shared → Prop), A.handled = none → I s.heap → (∀ h' e, Heap.ExtBut i s.heap h' → (∃ o, h'.get? e = some o ∧ o.cls = Value.type "StopIteration") → E (Value.ref e) { heap := h', gens := s.gens, drawn := s.drawn, toks := s.toks, os := s.os }) → wpAny (model prog w) A (Builtin.SmallTypes.nextOf (Value.ref i)) Q E s
  atI : ∀ h h', I h → (∀ o, h.get? i = some o → h'.get? i = some o) → (∀ o, h.get? l = some o → h'.get? l = some o) → I h'
structure Itr (prog : Program) (w : World) (i l : Addr) (xs : Array Value) (S : Nat → Heap → Prop) : Prop where
  item : ∀ k x, xs[k]? = some x → Drw prog w i l (S k) (S (k + 1)) x
  stop : ∀ k, xs[k]? = none → DrwE prog w i l (S k)
  there : ∀ k h, S k h → (∃ o, h.get? i = some o) ∧ ∃ o, h.get? l = some o
  at_ : ∀ k h h', S k h → (∀ o, h.get? i = some o → h'.get? i = some o) → (∀ o, h.get? l = some o → h'.get? l = some o) → S k h'
theorem u9 {prog : Program} {w : World} {i l : Addr} {xs : Array Value} (ne : l ≠ i) : Itr prog w i l xs (fun k h => h.IsListIter i l k ∧ h.IsList l xs) := by
  have at_ : ∀ k (h h' : Heap), (h.IsListIter i l k ∧ h.IsList l xs) → (∀ o, h.get? i = some o → h'.get? i = some o) → (∀ o, h.get? l = some o → h'.get? l = some o) → h'.IsListIter i l k ∧ h'.IsList l xs := fun k h h' q q1 q2 => ⟨q.1.at q1, let ⟨o, a, b⟩ := q.2; ⟨o, q2 o a, b⟩⟩
  refine ⟨fun k x hx => ⟨fun A E s Q q c => ?_, at_ k, at_ (k + 1)⟩, fun k hx => ⟨fun A E s Q hA q c => ?_, at_ k⟩, fun k h q => ⟨let ⟨o, a, _⟩ := q.1; ⟨o, a⟩, let ⟨o, a, _⟩ := q.2; ⟨o, a⟩⟩, at_⟩
  · exact wpAny_nextOf_list_item q.1 q.2 hx fun h' j sb => c h' ⟨j, let ⟨o, a, b⟩ := q.2; ⟨o, (sb.2 _ ne).trans a, b⟩⟩ sb
  · exact wpAny_nextOf_list_end hA q.1 q.2 hx c
theorem sE {prog : Program} {w : World} {i l : Addr} {xs : Array Value} (ne : l ≠ i) : Itr prog w i l xs (fun k h => h.IsTupleIter i l k ∧ h.IsTuple l xs) := by
  have at_ : ∀ k (h h' : Heap), (h.IsTupleIter i l k ∧ h.IsTuple l xs) → (∀ o, h.get? i = some o → h'.get? i = some o) → (∀ o, h.get? l = some o → h'.get? l = some o) → h'.IsTupleIter i l k ∧ h'.IsTuple l xs := fun k h h' q q1 q2 => ⟨let ⟨o, a, b⟩ := q.1; ⟨o, q1 o a, b⟩, let ⟨o, a, b⟩ := q.2; ⟨o, q2 o a, b⟩⟩
  refine ⟨fun k x hx => ⟨fun A E s Q q c => ?_, at_ k, at_ (k + 1)⟩, fun k hx => ⟨fun A E s Q hA q c => ?_, at_ k⟩, fun k h q => ⟨let ⟨o, a, _⟩ := q.1; ⟨o, a⟩, let ⟨o, a, _⟩ := q.2; ⟨o, a⟩⟩, at_⟩
  · exact wpAny_nextOf_tuple_item q.1 q.2 hx fun h' j sb => c h' ⟨j, let ⟨o, a, b⟩ := q.2; ⟨o, (sb.2 _ ne).trans a, b⟩⟩ sb
  · exact wpAny_nextOf_tuple_end hA q.1 q.2 hx c
noncomputable def iZ (st : Store) : U → Option (List U)
  | .tup us => some us
  | .lst us => some us
  | .scr ns => some (ns.map U.int)
  | .ref n => match st[n]? with
    | some (.lst us) => some us
    | _ => none
  | _ => none
noncomputable def zipKV (st : Store) : List U → Option (List (Key × U))
  | [u, v] => (iZ st u).bind fun ks => (oZ ks).bind fun kk => (iZ st v).map fun vs => jC [] (kk.zip vs)
  | _ => none
noncomputable def zipK (f : DA) : DKv := fun env st => (f env st).bind fun us st1 => Rs.of (zipKV st1 us) st1
theorem walk_of {X : Cx} {pins : List (Addr × Obj)} {sg : L2.St} {H : Hp} {s : Shared} (I : Inv X pins sg H s) {a : Addr} {vs : List V} (h : SqL X.K H a vs ∨ SqT X.K H a vs) : ∃ (its : List Value) (ob : Obj) (Hh : Heap → Prop) (S : Addr → Nat → Heap → Prop), Vals vs its ∧ its.length ≤ sizeLine ∧ Begins (.ref a) ob Hh ∧ Hh s.heap ∧ (∃ o, s.heap.get? a = some o) ∧
    ∀ i, a ≠ i → Itr X.prog X.w i a its.toArray (S i) ∧ ∀ h', h'.get? i = some ob → (∀ o, s.heap.get? a = some o → h'.get? a = some o) → S i 0 h' := by
  rcases h with h | h
  · obtain ⟨its, v, p, z⟩ := I.list h
    have hl := p.isList
    refine ⟨its, _, _, fun i k h => h.IsListIter i a k ∧ h.IsList a its.toArray, v, ?_, begins_list a its.toArray, hl, let ⟨o, q, _⟩ := hl; ⟨o, q⟩, fun i ne => ⟨u9 ne, fun h' q1 q2 => ⟨⟨_, q1, rfl, rfl⟩, let ⟨o, q, r⟩ := hl; ⟨o, q2 o q, r⟩⟩⟩⟩
    rw [← v.length]; exact z
  · obtain ⟨its, v, p, z⟩ := I.tuple h
    have hl : s.heap.IsTuple a its.toArray := p
    refine ⟨its, _, _, fun i k h => h.IsTupleIter i a k ∧ h.IsTuple a its.toArray, v, ?_, begins_tuple a its.toArray, hl, let ⟨o, q, _⟩ := hl; ⟨o, q⟩, fun i ne => ⟨sE ne, fun h' q1 q2 => ⟨⟨_, q1, rfl, rfl⟩, let ⟨o, q, r⟩ := hl; ⟨o, q2 o q, r⟩⟩⟩⟩
    rw [← v.length]; exact z
@[simp] theorem zipK_ap (f : DA) (env : Env) (st : Store) : zipK f env st = (f env st).bind fun us st1 => Rs.of (zipKV st1 us) st1 := (rfl)
section
variable {X : Cx} {xs : XS} {wx : WX} {pos : Pos}
noncomputable def lstG (f : DE) : DL := fun env st => (f env st).bind fun u st1 => Rs.of (iZ st1 u) st1
noncomputable def tupG (f : DE) : DE := fun env st => (f env st).bind fun u st1 => Rs.of ((iZ st1 u).map U.tup) st1
noncomputable def backG (f : DE) : DL := fun env st => (f env st).bind fun u st1 => match u with
  | .tup _ => .bad
  | u => Rs.of ((iZ st1 u).map List.reverse) st1
noncomputable def popR0 (f : DE) : DE := fun env st => (f env st).bind fun u st1 => match u with
  | .ref n => match st1[n]? with
    | some (.lst us) => match us.getLast? with
      | some y => .ok y (st1.set n (.lst us.dropLast))
      | none => .bad
    | _ => .bad
  | _ => .bad
noncomputable def nilG (neg : Bool) (f : DE) : DE := fun env st => (f env st).bind fun u st1 => match u with
  | .lst us => .ok (.bl (us.isEmpty != neg)) st1
  | .ref n => match st1[n]? with
    | some (.lst us) => .ok (.bl (us.isEmpty != neg)) st1
    | _ => .bad
  | _ => .bad
noncomputable def lenG (f : DE) : DE := fun env st => (f env st).bind fun u st1 => match u with
  | .ref n => match st1[n]? with
    | some (.lst us) => .ok (.int us.length) st1
    | some (.dct ks _) => .ok (.int ks.length) st1
    | _ => .bad
  | u => Rs.of (gJ [u]) st1
end
@[simp] theorem lstG_ap (f : DE) (env : Env) (st : Store) : lstG f env st = (f env st).bind fun u st1 => Rs.of (iZ st1 u) st1 := (rfl)
@[simp] theorem tupG_ap (f : DE) (env : Env) (st : Store) : tupG f env st = (f env st).bind fun u st1 => Rs.of ((iZ st1 u).map U.tup) st1 := (rfl)
@[simp] theorem backG_ap (f : DE) (env : Env) (st : Store) : backG f env st = (f env st).bind fun u st1 => match u with
  | .tup _ => .bad
  | u => Rs.of ((iZ st1 u).map List.reverse) st1 := (rfl)
@[simp] theorem popR0_ap (f : DE) (env : Env) (st : Store) : popR0 f env st = (f env st).bind fun u st1 => match u with
  | .ref n => match st1[n]? with
    | some (.lst us) => match us.getLast? with
      | some y => .ok y (st1.set n (.lst us.dropLast))
      | none => .bad
    | _ => .bad
  | _ => .bad := (rfl)
@[simp] theorem nilG_ap (neg : Bool) (f : DE) (env : Env) (st : Store) : nilG neg f env st = (f env st).bind fun u st1 => match u with
  | .lst us => .ok (.bl (us.isEmpty != neg)) st1
  | .ref n => match st1[n]? with
    | some (.lst us) => .ok (.bl (us.isEmpty != neg)) st1
    | _ => .bad
  | _ => .bad := (rfl)
@[simp] theorem lenG_ap (f : DE) (env : Env) (st : Store) : lenG f env st = (f env st).bind fun u st1 => match u with
  | .ref n => match st1[n]? with
    | some (.lst us) => .ok (.int us.length) st1
    | some (.dct ks _) => .ok (.int ks.length) st1
    | _ => .bad
  | u => Rs.of (gJ [u]) st1 := (rfl)
end D
namespace D
open PySem L2
structure Lk (d : Addr) (o : Obj) (kvs : List (Key × V)) (H H' : Hp) : Prop where
  at_ : (H d = some (.dK kvs) ∧ H' d = some (.frz o (.dK kvs))) ∨ (H d = some (.frz o (.dK kvs)) ∧ H' d = some (.dK kvs))
  ne : ∀ a, a ≠ d → H' a = H a
section
variable {K : PySem.W.Frag} {W : Addr → Prop} {io : List Addr} {H H' : Hp} {d : Addr} {o : Obj} {kvs : List (Key × V)}
theorem Lk.off (k : Lk d o kvs H H') {a : Addr} {x : HO} (h : H a = some x) (n1 : ∀ kv, x ≠ .dK kv) (n2 : ∀ y kv, x ≠ .frz y (.dK kv)) : H' a = some x := by
  by_cases e : a = d
  · subst e
    rcases k.at_ with ⟨q, _⟩ | ⟨q, _⟩ <;> rw [q] at h <;> cases h
    · exact absurd rfl (n1 _)
    · exact absurd rfl (n2 _ _)
  · rw [k.ne a e]; exact h
theorem Lk.rd (k : Lk d o kvs H H') {a : Addr} {x : HO} (nf : ∀ y z, x ≠ .frz y z) (h : Rd H a x) : Rd H' a x := by
  by_cases e : a = d
  · subst e
    rcases k.at_ with ⟨q, q'⟩ | ⟨q, q'⟩ <;> rcases h with h | ⟨y, h⟩ <;> rw [q] at h <;> cases h
    · exact .inr ⟨o, q'⟩
    · exact absurd rfl (nf _ _)
    · exact .inl q'
  · rcases h with h | ⟨y, h⟩
    · exact .inl (by rw [k.ne a e]; exact h)
    · exact .inr ⟨y, by rw [k.ne a e]; exact h⟩
theorem Lk.ll (k : Lk d o kvs H H') {a : Addr} {xs : List V} (h : LL K W H a xs) : LL K W H' a xs := ⟨k.off h.1 (fun _ z => nomatch z) (fun _ _ z => nomatch z), h.2⟩
theorem Lk.ls (k : Lk d o kvs H H') {a : Addr} {xs : List V} (h : LS K W H a xs) : LS K W H' a xs := h.imp (fun z => ⟨k.rd (fun _ _ y => nomatch y) z.1, z.2⟩) id
theorem Lk.lt (k : Lk d o kvs H H') {a : Addr} {xs : List V} (h : LT K W H a xs) : LT K W H' a xs := h.imp (fun z => ⟨k.rd (fun _ _ y => nomatch y) z.1, z.2⟩) id
theorem Lk.ld (k : Lk d o kvs H H') {a : Addr} {ks : List U} {vs : List V} (h : LD W H a ks vs) : LD W H' a ks vs := ⟨h.1, h.2.imp (fun ⟨kv, q1, q2⟩ => ⟨kv, k.rd (fun _ _ y => nomatch y) q1, q2⟩) (fun ⟨kv, q1, q2⟩ => ⟨kv, k.off q1 (fun _ z => nomatch z) (fun _ _ z => nomatch z), q2⟩)⟩
mutual
theorem Lk.rep (k : Lk d o kvs H H') : ∀ (u : U) (v : V), Rep K W io H u v → Rep K W io H' u v
  | .non, v, h => by unfold Rep at h ⊢; exact h
  | .bl b, v, h => by unfold Rep at h ⊢; exact h
  | .int i, v, h => by unfold Rep at h ⊢; exact h
  | .str x, v, h => by unfold Rep at h ⊢; exact h
  | .ty n, v, h => by unfold Rep at h ⊢; exact h
  | .ref n, v, h => by unfold Rep at h ⊢; exact h
  | .tup us, v, h => by
    unfold Rep at h ⊢
    obtain ⟨a, vs, h1, h2, h3⟩ := h
    exact ⟨a, vs, h1, k.lt h2, Lk.reps k us vs h3⟩
  | .lst us, v, h => by
    unfold Rep at h ⊢
    obtain ⟨a, vs, h1, h2, h3⟩ := h
    exact ⟨a, vs, h1, k.ll h2, Lk.reps k us vs h3⟩
  | .dct ks us, v, h => by
    unfold Rep at h ⊢
    obtain ⟨a, vs, h1, h2, h3⟩ := h
    exact ⟨a, vs, h1, k.ld h2, Lk.reps k us vs h3⟩
  | .scr ns, v, h => by
    unfold Rep at h ⊢
    obtain ⟨a, h1, h2⟩ := h
    exact ⟨a, h1, k.ls h2⟩
theorem Lk.reps (k : Lk d o kvs H H') : ∀ (us : List U) (vs : List V), aq K W io H us vs → aq K W io H' us vs
  | [], vs, h => by unfold aq at h ⊢; exact h
  | u :: us, vs, h => by
    unfold aq at h ⊢
    obtain ⟨v, r, h1, h2, h3⟩ := h
    exact ⟨v, r, h1, Lk.rep k u v h2, Lk.reps k us r h3⟩
end
theorem Lk.ok {G : Addr → Prop} {st : Store} (k : Lk d o kvs H H') (nd : ¬ Wf G io d) (ok : Ok K G io st H) : Ok K G io st H' := by
  have nea : ∀ a, Wf G io a → a ≠ d := fun a ha e => nd (e ▸ ha)
  refine ⟨ok.nd, ok.dj, fun a ha => let ⟨x, e, n⟩ := ok.trk a ha; ⟨x, by rw [k.ne a (nea a ha)]; exact e, n⟩, ok.len, fun n ob a e1 e2 => ?_⟩
  have ha := k.ne a (nea a (.inr (List.mem_of_getElem? e2)))
  have q := ok.obs n ob a e1 e2
  cases ob with
  | lst us => obtain ⟨vs, q1, q2⟩ := q; exact ⟨vs, ha.trans q1, k.reps _ _ q2⟩
  | dct ks us => obtain ⟨kv, q1, q2, q3⟩ := q; exact ⟨kv, ha.trans q1, q2, k.reps _ _ q3⟩
  | dcT ks us => obtain ⟨kv, q1, q2, q3⟩ := q; exact ⟨kv, ha.trans q1, q2, k.reps _ _ q3⟩
  | dcN w kvs => obtain ⟨xs, q1, q2, q3⟩ := q; exact ⟨xs, ha.trans q1, q2, k.reps _ _ q3⟩
  | obj c fs => obtain ⟨C, dx, vs, q1, q2, q3⟩ := q; exact ⟨C, dx, vs, q1, ha.trans q2, k.reps _ _ q3⟩
  | ins c fs =>
    obtain ⟨C, dd, q1, q2, q3⟩ := q
    exact ⟨C, dd, q1, ha.trans q2, q3.keep fun x ws z => k.off z (fun _ y => nomatch y) (fun _ _ y => nomatch y)⟩
  | gone => trivial
theorem Lk.env {G : Addr → Prop} {env : Env} {sg : L2.St} (k : Lk d o kvs H H') (er : aK K G io H env sg) : aK K G io H' env sg := ⟨er.len, fun i s x e1 e2 => by
  have q := er.sl i s x e1 e2
  cases s with
  | un => trivial
  | val u => obtain ⟨v, q1, q2⟩ := q; exact ⟨v, q1, k.rep _ _ q2⟩
  | own us =>
    obtain ⟨a, vs, q1, q2, q3, q4⟩ := q
    exact ⟨a, vs, q1, q2, k.off q3 (fun _ z => nomatch z) (fun _ _ z => nomatch z), k.reps _ _ q4⟩⟩
theorem Lk.fr {F : Addr → Prop} {st : Store} {env : Env} {sg : L2.St} (k : Lk d o kvs H H') (nd : ¬ Wf (Gs F env sg) io d) (f : Fr K F io st env sg H) : Fr K F io st env sg H' := ⟨k.ok nd f.ok, k.env f.er, f.nF, f.dd⟩
end
noncomputable def p_ : Out → Out
  | .ex _ _ _ _ => .bad
  | x => x
noncomputable def sForK (i : Nat) (t : Tg) (b : DS) : DS := fun env st => match env[i]? with
  | some (.val (.dct ks us)) => match kvsOf ks us with
    | some _ => p_ (forL t b ks env st)
    | none => .bad
  | _ => .bad
@[simp] theorem sForK_ap (i : Nat) (t : Tg) (b : DS) (env : Env) (st : Store) : sForK i t b env st = match env[i]? with
  | some (.val (.dct ks us)) => match kvsOf ks us with
    | some _ => p_ (forL t b ks env st)
    | none => .bad
  | _ => .bad := (rfl)
end D
namespace D
open PySem L2
section
variable {X : Cx} {xs : XS} {wx : WX} {pos : Pos}
noncomputable def oO : List U → Option (List (Key × U))
  | [] => some []
  | .tup [k, v] :: r => match kOf k, oO r with
    | some kk, some l => some ((kk, v) :: l)
    | _, _ => none
  | _ => none
noncomputable def prsK (f : DE) : DKv := fun env st => (f env st).bind fun u st1 => match u with
  | .lst us => Rs.of ((oO us).map fun l => jC [] l) st1
  | _ => .bad
end
@[simp] theorem prsK_ap (f : DE) (env : Env) (st : Store) : prsK f env st = (f env st).bind fun u st1 => match u with
  | .lst us => Rs.of ((oO us).map fun l => jC [] l) st1
  | _ => .bad := (rfl)
noncomputable abbrev WFUEL : Nat := 100000
noncomputable def sr (st : Store) : U → Option (List U)
  | .lst us => some us
  | .ref n => match st[n]? with
    | some (.lst us) => some us
    | _ => none
  | _ => none
noncomputable def catG (f g : DE) : DL := fun env st => (f env st).bind fun u st1 => (g env st1).bind fun v st2 => match sr st2 u, sr st2 v with
  | some a, some b => if a.length + b.length ≤ sizeLine then .ok (a ++ b) st2 else .bad
  | _, _ => .bad
@[simp] theorem catG_ap (f g : DE) (env : Env) (st : Store) : catG f g env st = (f env st).bind fun u st1 => (g env st1).bind fun v st2 => match sr st2 u, sr st2 v with
  | some a, some b => if a.length + b.length ≤ 16777216 then .ok (a ++ b) st2 else .bad
  | _, _ => .bad := by rw [← aD]; rfl
@[simp] theorem lsAt_lst (st : Store) (us : List U) : sr st (.lst us) = some us := (rfl)
@[simp] theorem lsAt_ref (st : Store) (n : Nat) : sr st (.ref n) = match st[n]? with
  | some (.lst us) => some us
  | _ => none := (rfl)
noncomputable def forR (n : Nat) (t : Tg) (b : DS) : Nat → Nat → Env → Store → Out
  | 0, _, _, _ => .bad
  | k + 1, i, env, st => match st[n]? with
    | some (.lst us) => match us[i]? with
      | none => .nx env st
      | some u => match t u with
        | none => .bad
        | some l => match b (bf env l) st with
          | .nx env2 st2 => forR n t b k (i + 1) env2 st2
          | .ct env2 st2 => forR n t b k (i + 1) env2 st2
          | .bk env2 st2 => .nx env2 st2
          | .rt u st2 => .rt u st2
          | .ex c us env2 st2 => .ex c us env2 st2
          | .bad => .bad
    | _ => .bad
noncomputable def qU : Nat := 100000
noncomputable def sForR (f : DE) (t : Tg) (b : DS) : DS := fun env st => (f env st).out env fun u st1 => match u with
  | .ref n => forR n t b (qU + 1) 0 env st1
  | _ => .bad
@[simp] theorem sForR_ap (f : DE) (t : Tg) (b : DS) (env : Env) (st : Store) : sForR f t b env st = (f env st).out env fun u st1 => match u with
  | .ref n => forR n t b (qU + 1) 0 env st1
  | _ => .bad := (rfl)
noncomputable def selD (g1 g2 g3 : List U → Store → Rs U) (fi : DE) (fa : DA) : DE := fun env st => (fi env st).bind fun u st1 => match u with
  | .int i => if i = 0 then bo g1 fa env st1 else if i = 1 then bo g2 fa env st1 else if i = 2 then bo g3 fa env st1 else .bad
  | _ => .bad
@[simp] theorem selD_ap (g1 g2 g3 : List U → Store → Rs U) (fi : DE) (fa : DA) (env : Env) (st : Store) : selD g1 g2 g3 fi fa env st = (fi env st).bind fun u st1 => match u with
  | .int i => if i = 0 then bo g1 fa env st1 else if i = 1 then bo g2 fa env st1 else if i = 2 then bo g3 fa env st1 else .bad
  | _ => .bad := (rfl)
end D
set_option maxHeartbeats 4000000
namespace D
open PySem PySem.Spec PyProof.Rows L2
noncomputable def mulT2 : U → U → Option U
  | .tup x, .int k => if 0 ≤ k ∧ k ≤ 1000 ∧ x ≠ [] ∧ x.length ≤ 1000 then some (.tup (List.replicate k.toNat x).flatten) else none
  | _, _ => none
@[simp] theorem mulT_ap (x : List U) (k : Int) : mulT2 (.tup x) (.int k) = if 0 ≤ k ∧ k ≤ 1000 ∧ x ≠ [] ∧ x.length ≤ 1000 then some (.tup (List.replicate k.toNat x).flatten) else none := (rfl)
end D
set_option maxHeartbeats 4000000
namespace D
open PySem PySem.Spec PyProof.Rows L2
noncomputable def appNW (g : List U → Option U) (fa : DA) : DE := fun env st => (fa env st).bind fun us st1 => if bM (us.map (der st1)) = true then Rs.of ((g (us.map (der st1))).bind fun u => match u with
  | .str x => some (.str x)
  | _ => none) st1 else .bad
@[simp] theorem appNW_ap (g : List U → Option U) (fa : DA) (env : Env) (st : Store) : appNW g fa env st = (fa env st).bind fun us st1 => if bM (us.map (der st1)) = true then Rs.of ((g (us.map (der st1))).bind fun u => match u with
  | .str x => some (.str x)
  | _ => none) st1 else .bad := (rfl)
end D
set_option maxHeartbeats 4000000
namespace D
open PySem PySem.Spec PyProof.Rows L2
end D
set_option maxHeartbeats 4000000
namespace D
open PySem L2
mutual
noncomputable def uU (n : Nat) : U → Bool
  | .ref j => decide (j < n)
  | .tup us => cP n us
  | .lst us => cP n us
  | .dct _ us => cP n us
  | _ => true
noncomputable def cP (n : Nat) : List U → Bool
  | [] => true
  | u :: us => uU n u && cP n us
end
noncomputable def lowOb (n : Nat) : Ob → Bool
  | .lst us => cP n us
  | .dct _ us => cP n us
  | .dcT _ us => cP n us
  | .dcN _ kvs => cP n (nU kvs)
  | .obj _ fs => cP n (fs.map (·.2))
  | .ins _ _ => true
  | .gone => true
noncomputable def qj (n : Nat) (st : Store) : Bool := st.all (lowOb n)
noncomputable def jV : Nat → Nat → Store → U → U
  | 0, _, _, u => u
  | k + 1, n, st, .ref j => if j < n then .ref j else match st[j]? with
    | some (.lst us) => .lst (us.map (jV k n st))
    | some (.dct ks us) => .dct ks (us.map (jV k n st))
    | some (.dcT (k0 :: ks) us) => .dct ((k0 :: ks).map U.tup) (us.map (jV k n st))
    | _ => .ref j
  | k + 1, n, st, .tup us => .tup (us.map (jV k n st))
  | k + 1, n, st, .lst us => .lst (us.map (jV k n st))
  | k + 1, n, st, .dct ks us => .dct ks (us.map (jV k n st))
  | _ + 1, _, _, u => u
noncomputable def cutZ (n : Nat) (r : Rs U) : Rs U := match r with
  | .ok u st => if qj n (st.take n) = true ∧ uU n (jV 12 n st u) = true then .ok (jV 12 n st u) (st.take n) else .bad
  | .ex c fs st => if qj n (st.take n) = true then .ex c fs (st.take n) else .bad
  | .bad => .bad
noncomputable def zD (f : DE) : DE := fun env st => cutZ st.length (f env st)
@[simp] theorem zD_ap (f : DE) (env : Env) (st : Store) : zD f env st = cutZ st.length (f env st) := (rfl)
end D
set_option maxHeartbeats 4000000
namespace D
open PySem L2
noncomputable def sUnpR (is : List Nat) (f : DE) : DS := fun env st => (f env st).out env fun u st1 => match u with
  | .ref n => match st1[n]? with
    | some (.lst us) => if us.length = is.length then .nx (bf env (is.zip us)) st1 else .bad
    | _ => .bad
  | _ => .bad
@[simp] theorem sUnpR_ap (is : List Nat) (f : DE) (env : Env) (st : Store) : sUnpR is f env st = (f env st).out env fun u st1 => match u with
  | .ref n => match st1[n]? with
    | some (.lst us) => if us.length = is.length then .nx (bf env (is.zip us)) st1 else .bad
    | _ => .bad
  | _ => .bad := (rfl)
noncomputable def cutT (n : Nat) (r : Rs U) : Rs U := match r with
  | .ok (.ref j) st => match st[j]? with
    | some (.lst us) => if n ≤ j ∧ qj n (st.take n) = true ∧ cP n (us.map (jV 12 n (st.set j .gone))) = true then .ok (.ref n) (st.take n ++ [.lst (us.map (jV 12 n (st.set j .gone)))]) else .bad
    | _ => .bad
  | .ok _ _ => .bad
  | .ex c fs st => if qj n (st.take n) = true then .ex c fs (st.take n) else .bad
  | .bad => .bad
noncomputable def zT (f : DE) : DE := fun env st => cutT st.length (f env st)
@[simp] theorem zT_ap (f : DE) (env : Env) (st : Store) : zT f env st = cutT st.length (f env st) := (rfl)
theorem Ok.gone {K : PySem.W.Frag} {G : Addr → Prop} {io : List Addr} {st : Store} {H : Hp} (ok : Ok K G io st H) (j : Nat) : Ok K G io (st.set j .gone) H := by
  refine ⟨ok.nd, ok.dj, ok.trk, by rw [List.length_set]; exact ok.len, fun n ob a e1 e2 => ?_⟩
  by_cases h : j = n
  · subst h
    have : j < st.length := by
      have := (List.getElem?_eq_some_iff.mp e1).1
      rwa [List.length_set] at this
    rw [List.getElem?_set_self this] at e1
    cases e1
    trivial
  · rw [List.getElem?_set_ne h] at e1
    exact ok.obs n ob a e1 e2
end D
set_option maxHeartbeats 4000000
namespace D
open PySem PySem.Spec PyProof.Rows L2
noncomputable def lZ : U → U → Option U
  | .int i, .int j => some (.int (Builtin.bitAnd i j))
  | _, _ => none
noncomputable def lu : U → U → Option U
  | .int i, .int j => if 0 ≤ j then some (.int (i / 2 ^ j.toNat)) else none
  | _, _ => none
section
variable {X : Cx}
theorem o_and : OpR X (binaryOp .BitAnd) (P2 X.K lZ) := by
  intro pins s sg H x y v u Q I rx ry h
  obtain ⟨G, io, st, u1, u2, u3, ok, r1, r2, e, q⟩ := h
  unfold lZ at e
  split at e
  · cases e; have e1 := r1.int'; have e2 := r2.int'; subst e1; subst e2
    exact op_and pins s sg H _ _ v u Q I rx ry ⟨_, _, rfl, rfl, q _ H (Same.refl H) (dJ _)⟩
  · cases e
theorem o_shr : OpR X (binaryOp .RShift) (P2 X.K lu) := by
  intro pins s sg H x y v u Q I rx ry h
  obtain ⟨G, io, st, u1, u2, u3, ok, r1, r2, e, q⟩ := h
  unfold lu at e
  split at e
  · split at e
    · rename_i hs
      cases e; have e1 := r1.int'; have e2 := r2.int'; subst e1; subst e2
      exact op_shr pins s sg H _ _ v u Q I rx ry ⟨_, _, rfl, rfl, hs, q _ H (Same.refl H) (dJ _)⟩
    · cases e
  · cases e
end
@[simp] theorem and2_ap (i j : Int) : lZ (.int i) (.int j) = some (.int (Builtin.bitAnd i j)) := (rfl)
@[simp] theorem shr2_ap (i j : Int) : lu (.int i) (.int j) = if 0 ≤ j then some (.int (i / 2 ^ j.toNat)) else none := (rfl)
noncomputable def clrR (f : DE) : DE := fun env st => (f env st).bind fun u st1 => match u with
  | .ref n => match st1[n]? with
    | some (.lst _) => .ok .non (st1.set n (.lst []))
    | _ => .bad
  | _ => .bad
@[simp] theorem clrR_ap (f : DE) (env : Env) (st : Store) : clrR f env st = (f env st).bind fun u st1 => match u with
  | .ref n => match st1[n]? with
    | some (.lst _) => .ok .non (st1.set n (.lst []))
    | _ => .bad
  | _ => .bad := (rfl)
end D
set_option maxHeartbeats 4000000
namespace D
open PySem L2
noncomputable def pN : List (Key × U) → Option (List Str)
  | [] => some []
  | (.inr x, _) :: r => (pN r).map (x :: ·)
  | (.inl _, _) :: _ => none
noncomputable def tW (g : List (Key × U)) : Option (List U) := (pN g).bind fun ys => if ys.length < 64 then some ((bT ys).map U.str) else none
noncomputable def sortD (f : DE) : DL := fun env st => (f env st).bind fun u st1 => Rs.of ((dictAt st1 u).bind tW) st1
noncomputable def listK (f : DE) : DL := fun env st => (f env st).bind fun u st1 => Rs.of ((dictAt st1 u).map fun g => g.map fun p => kU p.1) st1
@[simp] theorem sortD_ap (f : DE) (env : Env) (st : Store) : sortD f env st = (f env st).bind fun u st1 => Rs.of ((dictAt st1 u).bind tW) st1 := (rfl)
@[simp] theorem listK_ap (f : DE) (env : Env) (st : Store) : listK f env st = (f env st).bind fun u st1 => Rs.of ((dictAt st1 u).map fun g => g.map fun p => kU p.1) st1 := (rfl)
section
variable {X : Cx} {xs : XS} {wx : WX} {pos : Pos} {tg : Expr}
noncomputable def sForX (i : Nat) (t : Tg) (b : DS) : DS := fun env st => match env[i]? with
  | some (.val (.dct ks us)) => match kvsOf ks us with
    | some _ => forL t b ks env st
    | none => .bad
  | _ => .bad
end
@[simp] theorem sForX_ap (i : Nat) (t : Tg) (b : DS) (env : Env) (st : Store) : sForX i t b env st = match env[i]? with
  | some (.val (.dct ks us)) => match kvsOf ks us with
    | some _ => forL t b ks env st
    | none => .bad
  | _ => .bad := (rfl)
section
variable {X : Cx} {xs : XS} {wx : WX} {pos : Pos} {tg : Expr}
noncomputable def vO (i : Nat) (vs : List Nat) (t : Tg) (c : DT) (e : DE) : DL := fun env st => match env[i]? with
  | some (.val (.dct ks us)) => match kvsOf ks us with
    | some _ => if ks.length ≤ sizeLine then dD (bu t c e ks (bR env vs) st) else .bad
    | none => .bad
  | _ => .bad
end
@[simp] theorem compK_ap (i : Nat) (vs : List Nat) (t : Tg) (c : DT) (e : DE) (env : Env) (st : Store) : vO i vs t c e env st = match env[i]? with
  | some (.val (.dct ks us)) => match kvsOf ks us with
    | some _ => if ks.length ≤ sizeLine then dD (bu t c e ks (bR env vs) st) else .bad
    | none => .bad
  | _ => .bad := (rfl)
noncomputable def compM (i : Nat) (vs : List Nat) (t : Tg) (c : DT) (e : DE) : DL := fun env st => match env[i]? with
  | some (.val (.dct _ _)) => vO i vs t c e env st
  | _ => bG (cH (var i)) vs t c e env st
@[simp] theorem compM_ap (i : Nat) (vs : List Nat) (t : Tg) (c : DT) (e : DE) (env : Env) (st : Store) : compM i vs t c e env st = match env[i]? with
  | some (.val (.dct _ _)) => vO i vs t c e env st
  | _ => bG (cH (var i)) vs t c e env st := (rfl)
end D
set_option maxHeartbeats 4000000
namespace D
open PySem PySem.Spec PyProof.Rows L2
end D
namespace D
open PySem L2
noncomputable def tabGet2 (tab : List (Str × U)) : U → U → Option U
  | .str x, d => some ((tabAt tab x).getD d)
  | _, _ => none
@[simp] theorem tabGet2_ap (tab : List (Str × U)) (x : Str) (d : U) : tabGet2 tab (.str x) d = some ((tabAt tab x).getD d) := (rfl)
end D
namespace D
open PySem L2 PySem.Spec PyProof.Rows
noncomputable def sTryF (t : List (Str × Bool)) (i j : Nat) (fld : Str) (b : DS) : DS := fun env st => match b env st with
  | .ex c fs env' st' => match fW t c with
    | some true => match fs.lookup fld with
      | some v => if i < env'.length then .nx ((env'.set j (.val v)).set i .un) st' else .bad
      | none => .bad
    | some false => .ex c fs env' st'
    | none => .bad
  | o => o
@[simp] theorem sTryF_ap (t : List (Str × Bool)) (i j : Nat) (fld : Str) (b : DS) (env : Env) (st : Store) : sTryF t i j fld b env st = match b env st with
  | .ex c fs env' st' => match fW t c with
    | some true => match fs.lookup fld with
      | some v => if i < env'.length then .nx ((env'.set j (.val v)).set i .un) st' else .bad
      | none => .bad
    | some false => .ex c fs env' st'
    | none => .bad
  | o => o := (rfl)
end D
namespace D
open PySem L2
noncomputable def mulU : U → U → Option (List U)
  | .lst x, .int k => if -(2 ^ 63) ≤ k ∧ k < 2 ^ 63 ∧ x.length * k.toNat ≤ sizeLine then some (List.replicate k.toNat x).flatten else none
  | _, _ => none
noncomputable def mulL (f g : DE) : DL := fun env st => (f env st).bind fun u st1 => (g env st1).bind fun v st2 => Rs.of (mulU u v) st2
@[simp] theorem mulL_ap (f g : DE) (env : Env) (st : Store) : mulL f g env st = (f env st).bind fun u st1 => (g env st1).bind fun v st2 => Rs.of (mulU u v) st2 := (rfl)
noncomputable def binP (g : U → U → Option U) (i : Nat) (fb : DE) : DE := fun env st => match jh env[i]? with
  | none => .bad
  | some us => (fb env st).bind fun k st1 => Rs.of (eO (g (.lst us) k)) st1
@[simp] theorem binP_ap (g : U → U → Option U) (i : Nat) (fb : DE) (env : Env) (st : Store) : binP g i fb env st = match jh env[i]? with
  | none => .bad
  | some us => (fb env st).bind fun k st1 => Rs.of (eO (g (.lst us) k)) st1 := (rfl)
noncomputable def mulS2 : U → U → Option U
  | .str x, .int k => if 0 ≤ k ∧ k ≤ 1000 ∧ x.length ≤ 1000 then some (.str (Txt.mul x k)) else none
  | _, _ => none
@[simp] theorem mulS_ap (x : Str) (k : Int) : mulS2 (.str x) (.int k) = if 0 ≤ k ∧ k ≤ 1000 ∧ x.length ≤ 1000 then some (.str (Txt.mul x k)) else none := (rfl)
noncomputable def lenP (i : Nat) : DE := fun env st => match jh env[i]? with
  | none => .bad
  | some us => .ok (.int us.length) st
@[simp] theorem lenP_ap (i : Nat) (env : Env) (st : Store) : lenP i env st = match jh env[i]? with
  | none => .bad
  | some us => .ok (.int us.length) st := (rfl)
noncomputable def sPopO (i : Nat) (f : DE) : DS := fun env st => match env[i]? with
  | some (.own _) => (f env st).out env fun k st1 => match env[i]?, k with
    | some (.own us), .int n => if -1000000 ≤ n ∧ n ≤ 1000000 then match seqIndex? n us.length with
      | some j => .nx (env.set i (.own (us.eraseIdx j))) st1
      | none => .bad else .bad
    | _, _ => .bad
  | _ => .bad
@[simp] theorem sPopO_ap (i : Nat) (f : DE) (env : Env) (st : Store) : sPopO i f env st = match env[i]? with
  | some (.own _) => (f env st).out env fun k st1 => match env[i]?, k with
    | some (.own us), .int n => if -1000000 ≤ n ∧ n ≤ 1000000 then match seqIndex? n us.length with
      | some j => .nx (env.set i (.own (us.eraseIdx j))) st1
      | none => .bad else .bad
    | _, _ => .bad
  | _ => .bad := (rfl)
noncomputable def sInsO (i : Nat) (f g : DE) : DS := fun env st => match env[i]? with
  | some (.own us) => (f env st).out env fun k st1 => (g env st1).out env fun u st2 => match k with
    | .int n => if 0 ≤ n ∧ n ≤ 1000000 ∧ us.length < sizeLine then .nx (env.set i (.own (us.take n.toNat ++ [u] ++ us.drop n.toNat))) st2 else .bad
    | _ => .bad
  | _ => .bad
@[simp] theorem sInsO_ap (i : Nat) (f g : DE) (env : Env) (st : Store) : sInsO i f g env st = match env[i]? with
  | some (.own us) => (f env st).out env fun k st1 => (g env st1).out env fun u st2 => match k with
    | .int n => if 0 ≤ n ∧ n ≤ 1000000 ∧ us.length < sizeLine then .nx (env.set i (.own (us.take n.toNat ++ [u] ++ us.drop n.toNat))) st2 else .bad
    | _ => .bad
  | _ => .bad := (rfl)
theorem aq.eraseIdx {K : PySem.W.Frag} {W : Addr → Prop} {io : List Addr} {H : Hp} : ∀ {us : List U} {vs : List V} (n : Nat), aq K W io H us vs → aq K W io H (us.eraseIdx n) (vs.eraseIdx n)
  | [], vs, n, h => by rw [h.isNil]; exact .nil
  | u :: us, vs, 0, h => by
    obtain ⟨v, r, rfl, q, t⟩ := h.uncons
    exact t
  | u :: us, vs, n + 1, h => by
    obtain ⟨v, r, rfl, q, t⟩ := h.uncons
    exact .cons q (aq.eraseIdx n t)
noncomputable def sTwoO (i : Nat) (g1 g2 f : DE) : DS := fun env st => (f env st).out env fun u st1 => match u with
  | .tup [v0, v1] => if aY v0 = true ∧ aY v1 = true then match env[i]? with
    | some (.own us) => (g1 env st1).out env fun k st2 => match k with
      | .int n => match ixN us.length n with
        | some j => (g2 (env.set i (.own (us.set j v0))) st2).out (env.set i (.own (us.set j v0))) fun k2 st3 => match k2 with
          | .int n2 => match ixN us.length n2 with
            | some j2 => .nx ((env.set i (.own (us.set j v0))).set i (.own ((us.set j v0).set j2 v1))) st3
            | none => .bad
          | _ => .bad
        | none => .bad
      | _ => .bad
    | _ => .bad
    else .bad
  | _ => .bad
@[simp] theorem sTwoO_ap (i : Nat) (g1 g2 f : DE) (env : Env) (st : Store) : sTwoO i g1 g2 f env st = (f env st).out env fun u st1 => match u with
  | .tup [v0, v1] => if aY v0 = true ∧ aY v1 = true then match env[i]? with
    | some (.own us) => (g1 env st1).out env fun k st2 => match k with
      | .int n => match ixN us.length n with
        | some j => (g2 (env.set i (.own (us.set j v0))) st2).out (env.set i (.own (us.set j v0))) fun k2 st3 => match k2 with
          | .int n2 => match ixN us.length n2 with
            | some j2 => .nx ((env.set i (.own (us.set j v0))).set i (.own ((us.set j v0).set j2 v1))) st3
            | none => .bad
          | _ => .bad
        | none => .bad
      | _ => .bad
    | _ => .bad
    else .bad
  | _ => .bad := (rfl)
end D
namespace D
open PySem L2 PySem.Spec PyProof.Rows
noncomputable def sTryN (t : List (Str × Bool)) (j : Nat) (b : DS) : DS := fun env st => match b env st with
  | .ex c fs env' st' => match fW t c with
    | some true => .nx (env'.set j (.val .non)) st'
    | some false => .ex c fs env' st'
    | none => .bad
  | o => o
@[simp] theorem sTryN_ap (t : List (Str × Bool)) (j : Nat) (b : DS) (env : Env) (st : Store) : sTryN t j b env st = match b env st with
  | .ex c fs env' st' => match fW t c with
    | some true => .nx (env'.set j (.val .non)) st'
    | some false => .ex c fs env' st'
    | none => .bad
  | o => o := (rfl)
end D
namespace D
open PySem L2
theorem KR.ext {K : PySem.W.Frag} {G : Addr → Prop} {io io' : List Addr} {H H' : Hp} (e : Ext io H io' H') : ∀ {a : List (Key × U)} {b : List (Key × V)}, KR K (Wf G io) io H a b → KR K (Wf G io') io' H' a b
  | _, _, .nil => .nil
  | _, _, .cons h t => .cons ⟨h.1, h.2.ext e⟩ (KR.ext e t)
noncomputable def sFldU (cs : List Str) (ns : List Str) (f e : DE) : DS := fun env st => (e env st).out env fun v st1 => match v with
  | .tup us => if us.length = ns.length then putAll cs f ns us env st1 else .bad
  | .lst us => if us.length = ns.length then putAll cs f ns us env st1 else .bad
  | _ => .bad
@[simp] theorem sFldU_ap (cs ns : List Str) (f e : DE) (env : Env) (st : Store) : sFldU cs ns f e env st = (e env st).out env fun v st1 => match v with
  | .tup us => if us.length = ns.length then putAll cs f ns us env st1 else .bad
  | .lst us => if us.length = ns.length then putAll cs f ns us env st1 else .bad
  | _ => .bad := (rfl)
noncomputable def dispG (l : List (U × U)) : Option (List (Key × U)) := (keyed l).bind fun kvs => if kvs.length ≤ 15 then some (jC [] kvs) else none
noncomputable def dispK (ps : List (DE × DE)) : DKv := fun env st => (dD (ju ps env st)).bind fun l st1 => Rs.of (dispG l) st1
@[simp] theorem dispK_ap (ps : List (DE × DE)) (env : Env) (st : Store) : dispK ps env st = (dD (ju ps env st)).bind fun l st1 => Rs.of (dispG l) st1 := (rfl)
section
variable {X : Cx} {xs : XS} {wx : WX} {pos : Pos}
noncomputable def clrK (f : DE) : DE := fun env st => (f env st).bind fun u st1 => match u with
  | .ref n => match st1[n]? with
    | some (.dct ks us) => if (kvsOf ks us).isSome then .ok .non (st1.set n (d_ [])) else .bad
    | _ => .bad
  | _ => .bad
end
@[simp] theorem clrK_ap (f : DE) (env : Env) (st : Store) : clrK f env st = (f env st).bind fun u st1 => match u with
  | .ref n => match st1[n]? with
    | some (.dct ks us) => if (kvsOf ks us).isSome then .ok .non (st1.set n (d_ [])) else .bad
    | _ => .bad
  | _ => .bad := (rfl)
noncomputable def appNB (g : List U → Option U) (fa : DA) : DE := fun env st => (fa env st).bind fun us st1 => if bM (us.map (der st1)) = true then Rs.of ((g (us.map (der st1))).bind fun u => match u with
  | .bl x => some (.bl x)
  | _ => none) st1 else .bad
@[simp] theorem appNB_ap (g : List U → Option U) (fa : DA) (env : Env) (st : Store) : appNB g fa env st = (fa env st).bind fun us st1 => if bM (us.map (der st1)) = true then Rs.of ((g (us.map (der st1))).bind fun u => match u with
  | .bl x => some (.bl x)
  | _ => none) st1 else .bad := (rfl)
noncomputable def compKt (i : Nat) (z : Int) (vs : List Nat) (t : Tg) (c : DT) (e : DE) : DL := fun env st => match env[i]? with
  | some (.val (.tup ps)) => match atI ps z with
    | some (.dct ks us) => match kvsOf ks us with
      | some _ => if ks.length ≤ sizeLine then dD (bu t c e ks (bR env vs) st) else .bad
      | none => .bad
    | _ => .bad
  | _ => .bad
@[simp] theorem compKt_ap (i : Nat) (z : Int) (vs : List Nat) (t : Tg) (c : DT) (e : DE) (env : Env) (st : Store) : compKt i z vs t c e env st = match env[i]? with
  | some (.val (.tup ps)) => match atI ps z with
    | some (.dct ks us) => match kvsOf ks us with
      | some _ => if ks.length ≤ sizeLine then dD (bu t c e ks (bR env vs) st) else .bad
      | none => .bad
    | _ => .bad
  | _ => .bad := (rfl)
end D
namespace D
open PySem PySem.Spec L2
end D
namespace D
open PySem L2
section
variable {X : Cx} {xs : XS} {wx : WX} {pos : Pos}
noncomputable def upD (f : DE) : DE := fun env st => (f env st).bind fun u st1 => match u with
  | .str a => if a.length ≤ 1000 then .ok (.str (Txt.upper a)) st1 else .bad
  | _ => .bad
end
@[simp] theorem upD_ap (f : DE) (env : Env) (st : Store) : upD f env st = (f env st).bind fun u st1 => match u with
  | .str a => if a.length ≤ 1000 then .ok (.str (Txt.upper a)) st1 else .bad
  | _ => .bad := (rfl)
end D
set_option maxHeartbeats 2000000
namespace D
open PySem PySem.Spec PyProof.Rows L2
noncomputable def valsK (f : DE) : DL := fun env st => (f env st).bind fun u st1 => Rs.of ((dictAt st1 u).map fun g => g.map (·.2)) st1
@[simp] theorem valsK_ap (f : DE) (env : Env) (st : Store) : valsK f env st = (f env st).bind fun u st1 => Rs.of ((dictAt st1 u).map fun g => g.map (·.2)) st1 := (rfl)
end D
namespace D
open PySem L2
noncomputable def qM {A : Type} (g : List (Key × A)) (k : Key) : List (Key × A) := g.filter fun p => decide (p.1 ≠ k)
noncomputable def popK (f g : DE) : DE := fun env st => (f env st).bind fun u st1 => match dictAt st1 u with
  | none => .bad
  | some _ => match u with
    | .ref n => (g env st1).bind fun k st2 => match st2[n]? with
      | some (.dct ks us) => match kvsOf ks us, kOf k with
        | some gs, some kk => match gj gs kk with
          | some v => .ok v (st2.set n (d_ (qM gs kk)))
          | none => .bad
        | _, _ => .bad
      | _ => .bad
    | _ => .bad
@[simp] theorem popK_ap (f g : DE) (env : Env) (st : Store) : popK f g env st = (f env st).bind fun u st1 => match dictAt st1 u with
  | none => .bad
  | some _ => match u with
    | .ref n => (g env st1).bind fun k st2 => match st2[n]? with
      | some (.dct ks us) => match kvsOf ks us, kOf k with
        | some gs, some kk => match gj gs kk with
          | some v => .ok v (st2.set n (d_ (qM gs kk)))
          | none => .bad
        | _, _ => .bad
      | _ => .bad
    | _ => .bad := (rfl)
theorem KR.drop {K : PySem.W.Frag} {W : Addr → Prop} {io : List Addr} {H : Hp} {k : Key} : ∀ {a : List (Key × U)} {b : List (Key × V)}, KR K W io H a b → KR K W io H (qM a k) (dropK b k)
  | _, _, .nil => .nil
  | _, _, .cons (a := p) (b := q) h t => by
    unfold qM dropK
    rw [List.filter_cons, List.filter_cons, ← h.1]
    split
    · exact .cons h (KR.drop t)
    · exact KR.drop t
section
variable {X : Cx} {xs : XS} {wx : WX} {pos : Pos}
noncomputable def sTryE (b : DS) : DS := fun env st => match b env st with
  | .ex _ _ _ _ => .bad
  | o => o
@[simp] theorem sTryE_ap (b : DS) (env : Env) (st : Store) : sTryE b env st = match b env st with
  | .ex _ _ _ _ => .bad
  | o => o := (rfl)
end
noncomputable def sTryZ (t : List (Str × Bool)) (b : DS) : DS := fun env st => match b env st with
  | .ex c fs env' st' => match fW t c with
    | some false => .ex c fs env' st'
    | _ => .bad
  | o => o
@[simp] theorem sTryZ_ap (t : List (Str × Bool)) (b : DS) (env : Env) (st : Store) : sTryZ t b env st = match b env st with
  | .ex c fs env' st' => match fW t c with
    | some false => .ex c fs env' st'
    | _ => .bad
  | o => o := (rfl)
section
variable {X : Cx} {xs : XS} {wx : WX} {pos : Pos}
noncomputable def cntB (f g : DE) : DE := fun env st => (f env st).bind fun u st1 => match u with
  | .lst us => (g env st1).bind fun v st2 => match jN us, v with
    | some ws, .bl k => .ok (.int (ws.count k : Nat)) st2
    | _, _ => .bad
  | _ => .bad
@[simp] theorem cntB_ap (f g : DE) (env : Env) (st : Store) : cntB f g env st = (f env st).bind fun u st1 => match u with
  | .lst us => (g env st1).bind fun v st2 => match jN us, v with
    | some ws, .bl k => .ok (.int (ws.count k : Nat)) st2
    | _, _ => .bad
  | _ => .bad := (rfl)
noncomputable def idxB (f g : DE) : DE := fun env st => (f env st).bind fun u st1 => match u with
  | .lst us => (g env st1).bind fun v st2 => match jN us, v with
    | some ws, .bl k => if k ∈ ws then .ok (.int (ws.idxOf k : Nat)) st2 else .bad
    | _, _ => .bad
  | _ => .bad
@[simp] theorem idxB_ap (f g : DE) (env : Env) (st : Store) : idxB f g env st = (f env st).bind fun u st1 => match u with
  | .lst us => (g env st1).bind fun v st2 => match jN us, v with
    | some ws, .bl k => if k ∈ ws then .ok (.int (ws.idxOf k : Nat)) st2 else .bad
    | _, _ => .bad
  | _ => .bad := (rfl)
end
end D
namespace D
open PySem L2 PyProof.Rows
noncomputable def keysU : List U → Option (List (Str × U))
  | [] => some []
  | .tup (.str k :: r) :: us => (keysU us).map fun l => (k, .tup (.str k :: r)) :: l
  | _ :: _ => none
noncomputable def getK (l : List (Str × U)) (x : Str) : Option U := (l.find? fun p => decide (p.1 = x)).map (·.2)
noncomputable def tV (u : U) : Option (List U) := match u with
  | .lst us => (keysU us).bind fun l => if (l.map (·.1)).Nodup then some ((bT (l.map (·.1))).filterMap (getK l)) else none
  | _ => none
noncomputable def sortTL (f : DE) : DL := fun env st => (f env st).bind fun u st1 => Rs.of (tV u) st1
@[simp] theorem sortTL_ap (f : DE) (env : Env) (st : Store) : sortTL f env st = (f env st).bind fun u st1 => Rs.of (tV u) st1 := (rfl)
end D
set_option maxHeartbeats 4000000
namespace D
open PySem L2
noncomputable def m9 {A B : Type} (f : A → Option B) : List A → Option (List B)
  | [] => some []
  | u :: us => match f u with
    | some v => match m9 f us with
      | some vs => some (v :: vs)
      | none => none
    | none => none
noncomputable def ixJ : List Nat → Nat → Option Nat
  | [], _ => none
  | x :: js, j => if x = j then some 0 else (ixJ js j).map (· + 1)
noncomputable def oJ : Nat → List Nat → Nat → Store → U → Option U
  | 0, _, _, _, _ => none
  | k + 1, js, n, st, .ref j => match ixJ js j with
    | some i => some (.ref (n + i))
    | none => match st[j]? with
      | some (.lst us) => (m9 (oJ k js n st) us).map U.lst
      | some (.dct ks us) => (m9 (oJ k js n st) us).map (U.dct ks)
      | _ => none
  | k + 1, js, n, st, .tup us => (m9 (oJ k js n st) us).map U.tup
  | _ + 1, _, _, _, .non => some .non
  | _ + 1, _, _, _, .bl b => some (.bl b)
  | _ + 1, _, _, _, .int i => some (.int i)
  | _ + 1, _, _, _, .str x => some (.str x)
  | _ + 1, _, _, _, _ => none
noncomputable def obX (js : List Nat) (n : Nat) (st : Store) (j : Nat) : Option Ob := match st[j]? with
  | some (.lst us) => (m9 (oJ 12 js n st) us).map Ob.lst
  | some (.dct ks us) => (m9 (oJ 12 js n st) us).map (Ob.dct ks)
  | _ => none
noncomputable def appX (kp : U → Store → List Nat) (g : List U → Store → Rs U) (fa : DA) : DE := fun env st => (fa env st).bind fun us st1 => if bM (us.map (der st1)) = true then match g (us.map (der st1)) [] with
  | .ok u s => if (kp u s).Nodup then match m9 (obX (kp u s) st1.length s) (kp u s), oJ 12 (kp u s) st1.length s u with
      | some stx, some u' => .ok u' (st1 ++ stx)
      | _, _ => .bad
    else .bad
  | .ex c fs [] => .ex c fs st1
  | _ => .bad
  else .bad
@[simp] theorem appX_ap (kp : U → Store → List Nat) (g : List U → Store → Rs U) (fa : DA) (env : Env) (st : Store) : appX kp g fa env st = (fa env st).bind fun us st1 => if bM (us.map (der st1)) = true then match g (us.map (der st1)) [] with
  | .ok u s => if (kp u s).Nodup then match m9 (obX (kp u s) st1.length s) (kp u s), oJ 12 (kp u s) st1.length s u with
      | some stx, some u' => .ok u' (st1 ++ stx)
      | _, _ => .bad
    else .bad
  | .ex c fs [] => .ex c fs st1
  | _ => .bad
  else .bad := (rfl)
end D
set_option maxHeartbeats 4000000
namespace D
open PySem L2
noncomputable def lV (n : Nat) (t : Tg) (c : DT) (e : DE) : Nat → Nat → Env → Store → Rs (List U)
  | 0, _, _, _ => .bad
  | k + 1, i, env, st => match st[n]? with
    | some (.lst us) => match us[i]? with
      | none => .ok [] st
      | some u => match t u with
        | none => .bad
        | some l => (c (bf env l) st).bind fun b st1 => if b = true then (e (bf env l) st1).bind fun v st2 => (lV n t c e k (i + 1) env st2).bind fun r st3 => .ok (v :: r) st3 else lV n t c e k (i + 1) env st1
    | _ => .bad
noncomputable def compR (f : DE) (vs : List Nat) (t : Tg) (c : DT) (e : DE) : DL := fun env st => (f env st).bind fun u st1 => match u with
  | .ref n => dD (lV n t c e (qU + 1) 0 (bR env vs) st1)
  | _ => .bad
@[simp] theorem compR_ap (f : DE) (vs : List Nat) (t : Tg) (c : DT) (e : DE) (env : Env) (st : Store) : compR f vs t c e env st = (f env st).bind fun u st1 => match u with
  | .ref n => dD (lV n t c e (qU + 1) 0 (bR env vs) st1)
  | _ => .bad := (rfl)
end D
set_option maxHeartbeats 4000000
namespace D
open PySem PySem.Spec PyProof.Rows L2
end D
set_option maxHeartbeats 4000000
namespace D
open PySem L2
noncomputable def sForV (i : Nat) (z : Int) (t : Tg) (b : DS) : DS := fun env st => match env[i]? with
  | some (.val (.tup ps)) => match atI ps z with
    | some (.dct ks us) => match kvsOf ks us with
      | some _ => p_ (forL t b us env st)
      | none => .bad
    | _ => .bad
  | _ => .bad
@[simp] theorem sForV_ap (i : Nat) (z : Int) (t : Tg) (b : DS) (env : Env) (st : Store) : sForV i z t b env st = match env[i]? with
  | some (.val (.tup ps)) => match atI ps z with
    | some (.dct ks us) => match kvsOf ks us with
      | some _ => p_ (forL t b us env st)
      | none => .bad
    | _ => .bad
  | _ => .bad := (rfl)
end D
set_option maxHeartbeats 4000000
namespace D
open PySem L2
end D
set_option maxHeartbeats 2000000
namespace D
open PySem PyProof.Rows L2
end D
set_option maxHeartbeats 4000000
namespace L2
open PySem PySem.Spec PyProof.Rows
end L2
namespace D
open PySem PyProof.Rows L2
end D
set_option maxHeartbeats 4000000
namespace D
open PySem PyProof.Rows L2
noncomputable def sTryX (t : List (Str × Bool)) (y : Str) (ns : List Str) (b : DS) : DS := fun env st => match b env st with
  | .ex c fs env' st' => match fW t c with
    | some true => .ex y (ns.zip [.non, .non]).reverse env' st'
    | some false => .ex c fs env' st'
    | none => .bad
  | o => o
@[simp] theorem sTryX_ap (t : List (Str × Bool)) (y : Str) (ns : List Str) (b : DS) (env : Env) (st : Store) : sTryX t y ns b env st = match b env st with
  | .ex c fs env' st' => match fW t c with
    | some true => .ex y (ns.zip [.non, .non]).reverse env' st'
    | some false => .ex c fs env' st'
    | none => .bad
  | o => o := (rfl)
end D
set_option maxHeartbeats 4000000
namespace D
open PySem PyProof.Rows L2
noncomputable def sTryX0 (t : List (Str × Bool)) (y : Str) (b : DS) : DS := fun env st => match b env st with
  | .ex c fs env' st' => match fW t c with
    | some true => .ex y [] env' st'
    | some false => .ex c fs env' st'
    | none => .bad
  | o => o
@[simp] theorem sTryX0_ap (t : List (Str × Bool)) (y : Str) (b : DS) (env : Env) (st : Store) : sTryX0 t y b env st = match b env st with
  | .ex c fs env' st' => match fW t c with
    | some true => .ex y [] env' st'
    | some false => .ex c fs env' st'
    | none => .bad
  | o => o := (rfl)
end D
set_option maxHeartbeats 4000000
namespace D
open PySem L2
noncomputable def txtK (g : List (Key × U)) : Bool := g.all fun p => match p.1 with
  | .inr _ => true
  | .inl _ => false
noncomputable def selG (g l : List (Key × U)) (x : Str) : List U := (l.filter fun p => !decide (p.1 = .inr x)).map fun p => (gj g p.1).getD .non
noncomputable def selK (i j v : Nat) : DL := fun env st => match env[i]?, env[j]? with
  | some (.val (.ref n)), some (.val (.str x)) => match st[n]? with
    | some (.dct ks us) => match kvsOf ks us with
      | some g => if txtK g = true ∧ g.length ≤ 1000 ∧ v < env.length then .ok (selG g g x) st else .bad
      | none => .bad
    | _ => .bad
  | _, _ => .bad
@[simp] theorem selK_ap (i j v : Nat) (env : Env) (st : Store) : selK i j v env st = match env[i]?, env[j]? with
  | some (.val (.ref n)), some (.val (.str x)) => match st[n]? with
    | some (.dct ks us) => match kvsOf ks us with
      | some g => if txtK g = true ∧ g.length ≤ 1000 ∧ v < env.length then .ok (selG g g x) st else .bad
      | none => .bad
    | _ => .bad
  | _, _ => .bad := (rfl)
end D
namespace D
open PySem L2
class Wor where
  w : World
mutual
noncomputable def toKey : U → Option NestedKey
  | .int i => some (.num i)
  | .str x => some (.text x)
  | .tup us => (toKeys us).map NestedKey.tup
  | .non => none | .bl _ => none | .lst _ => none | .dct _ _ => none | .ref _ => none | .ty _ => none | .scr _ => none
noncomputable def toKeys : List U → Option (List NestedKey)
  | [] => some []
  | u :: us => (toKey u).bind fun k => (toKeys us).map (k :: ·)
end
mutual
theorem key_to : ∀ (u : U) (k : NestedKey), toKey u = some k → dO k = u
  | .int i, k, h => by unfold toKey at h; cases h; rfl
  | .str x, k, h => by unfold toKey at h; cases h; rfl
  | .tup us, k, h => by
    unfold toKey at h
    cases e : toKeys us with
    | none => rw [e] at h; cases h
    | some ks =>
      rw [e] at h
      cases h
      show U.tup (eG ks) = _
      rw [lH us ks e]
  | .non, _, h => by unfold toKey at h; cases h
  | .bl _, _, h => by unfold toKey at h; cases h
  | .lst _, _, h => by unfold toKey at h; cases h
  | .dct _ _, _, h => by unfold toKey at h; cases h
  | .ref _, _, h => by unfold toKey at h; cases h
  | .ty _, _, h => by unfold toKey at h; cases h
  | .scr _, _, h => by unfold toKey at h; cases h
theorem lH : ∀ (us : List U) (ks : List NestedKey), toKeys us = some ks → eG ks = us
  | [], ks, h => by unfold toKeys at h; cases h; rfl
  | u :: us, ks, h => by
    unfold toKeys at h
    cases e1 : toKey u with
    | none => rw [e1] at h; cases h
    | some k =>
      cases e2 : toKeys us with
      | none => rw [e1, e2] at h; cases h
      | some r =>
        rw [e1, e2] at h
        cases h
        show dO k :: eG r = _
        rw [key_to u k e1, lH us r e2]
end
section
variable {P : Program} {w : World} {K : PySem.W.Frag} {W : Addr → Prop} {io : List Addr} {H : Hp} {h : Heap}
theorem sqT_at {a : Addr} {xs : List V} (ok : HOk P w H h) (KX : K.In h) (l : SqT K H a xs) : ∃ (its : List Value) (o : Obj) (n : Nat), Vals xs its ∧ h.get? a = some o ∧ o.cls = .type "tuple" ∧ o.data = .seq its.toArray n := by
  rcases l with l | ⟨o, its, n, hk, hc, hs, hz, r⟩
  · obtain ⟨z, its, r, o, q1, q2, n, q3⟩ := l.ok ok
    exact ⟨its, o, n, r, q1, q2, q3⟩
  · exact ⟨its.toList, o, n, r, KX a o hk, hc, by simpa using hs⟩
mutual
theorem lE (ok : HOk P w H h) (KX : K.In h) : ∀ (k : NestedKey) (v : V) (u : Value), Rep K W io H (dO k) v → RelV v u → NestedIs h k u
  | .none, v, u, r, q => by
    have r : v = .non := by unfold dO Rep at r; exact r
    subst r
    have q : u = Value.none := q
    subst q
    exact .none
  | .num i, v, u, r, q => by
    have r : v = .int i := by unfold dO Rep at r; exact r
    subst r
    obtain ⟨t, rfl⟩ := (show ∃ t, u = Value.int i t from q)
    exact .int i t
  | .text x, v, u, r, q => by
    have r : v = .str x := by unfold dO Rep at r; exact r
    subst r
    obtain ⟨t, rfl⟩ := (show ∃ t, u = Value.str x t from q)
    exact .text x t
  | .tup ks, v, u, r, q => by
    have r : ∃ a vs, v = .ref a ∧ LT K W H a vs ∧ aq K W io H (eG ks) vs := by unfold dO Rep at r; exact r
    obtain ⟨a, vs, rfl, l, rs⟩ := r
    have q : u = Value.ref a := q
    subst q
    obtain ⟨its, o, n, hv, hg, hc, hd⟩ := sqT_at ok KX l.sq
    exact .tup hg hc hd (by simpa using mU ok KX ks vs its rs hv)
theorem mU (ok : HOk P w H h) (KX : K.In h) : ∀ (ks : List NestedKey) (vs : List V) (its : List Value), aq K W io H (eG ks) vs → Vals vs its → NestedAll h ks its
  | [], vs, its, r, q => by
    have r : vs = [] := by unfold eG aq at r; exact r
    subst r
    cases q
    exact .nil
  | k :: ks, vs, its, r, q => by
    have r : ∃ v t, vs = v :: t ∧ Rep K W io H (dO k) v ∧ aq K W io H (eG ks) t := by unfold eG aq at r; exact r
    obtain ⟨v, t, rfl, r1, r2⟩ := r
    cases q with
    | cons q1 q2 => exact .cons (lE ok KX k v _ r1 q1) (mU ok KX ks t _ r2 q2)
end
noncomputable def valN (kvs : List (NestedKey × U)) (k : NestedKey) : Option U := (kvs.find? fun p => decide (p.1 = k)).map (·.2)
noncomputable def putN (kvs : List (NestedKey × U)) (k : NestedKey) (v : U) : List (NestedKey × U) := if (valN kvs k).isSome = true then kvs.map (fun p => if p.1 = k then (p.1, v) else p) else kvs ++ [(k, v)]
noncomputable def wU (xs : List NE) : List (NestedKey × Addr × Value) := xs.map fun x => (x.1, x.2.1, x.2.2.2)
noncomputable def jQ (xs : List NE) (k : NestedKey) (b : Addr) (v : V) (u : Value) : List NE := if (xs.any fun x => decide (x.1 = k)) = true then xs.map (fun x => if x.1 = k then (x.1, x.2.1, v, u) else x) else xs ++ [(k, b, v, u)]
theorem wU_keys (xs : List NE) : (wU xs).map (·.1) = xs.map (·.1) := by unfold wU; rw [List.map_map]; rfl
theorem mG : ∀ (us : List U) (vs : List V) {us' : List U} {vs' : List V}, us.length = vs.length → aq K W io H (us ++ us') (vs ++ vs') → aq K W io H us vs ∧ aq K W io H us' vs'
  | [], [], _, _, _, r => ⟨.nil, r⟩
  | [], _ :: _, _, _, e, _ => by cases e
  | _ :: _, [], _, _, e, _ => by cases e
  | u :: us, v :: vs, us', vs', e, r => by
    obtain ⟨x, t, e1, r1, r2⟩ := (show ∃ x t, v :: vs ++ vs' = x :: t ∧ Rep K W io H u x ∧ aq K W io H (us ++ us') t from r.uncons)
    rw [List.cons_append] at e1
    cases e1
    obtain ⟨a, b⟩ := mG us vs (by simpa using e) r2
    exact ⟨.cons r1 a, b⟩
theorem ir {us us' : List U} : ∀ {vs vs' : List V}, aq K W io H us vs → aq K W io H us' vs' → aq K W io H (us ++ us') (vs ++ vs') := by
  induction us with
  | nil => intro vs vs' a b; have := a.isNil; subst this; exact b
  | cons u us ih =>
    intro vs vs' a b
    obtain ⟨x, t, rfl, r1, r2⟩ := a.uncons
    exact .cons r1 (ih r2 b)
theorem e_ {kvs : List (NestedKey × U)} {xs : List NE} (n : Nok kvs xs) (r : aq K W io H (nU kvs) (nV xs)) : aq K W io H (kvs.map fun p => dO p.1) (xs.map fun x => V.ref x.2.1) ∧ aq K W io H (kvs.map (·.2)) (xs.map (·.2.2.1)) := by
  refine mG _ _ ?_ r
  have := congrArg List.length n.1
  rw [List.length_map, List.length_map] at this
  rw [List.length_map, List.length_map]
  exact this.symm
theorem mW {kvs : List (NestedKey × U)} {xs : List NE} (n : Nok kvs xs) : xs.length = kvs.length := by
  have := congrArg List.length n.1
  rw [List.length_map, List.length_map] at this
  exact this
theorem rep_at {us : List U} {vs : List V} (r : aq K W io H us vs) : ∀ (i : Nat) (u : U) (v : V), us[i]? = some u → vs[i]? = some v → Rep K W io H u v := fun i u v h1 h2 => by
  obtain ⟨v', h3, r'⟩ := r.get h1
  rw [h2] at h3; cases h3
  exact r'
theorem rV (ok : HOk P w H h) (KX : K.In h) {a : Addr} {kvs : List (NestedKey × U)} {xs : List NE} (q1 : H a = some (bZ w a xs)) (n : Nok kvs xs) (r : aq K W io H (nU kvs) (nV xs)) : (a == sysModules) = false ∧ h.DictOfH (nestedKind P w) a (wU xs) := by
  obtain ⟨⟨hs, o, es, ep, g1, g2, g3, g4⟩, -, -⟩ := (show ObjOk P w H h a (.ext (kJ w a xs)) from ok a _ q1)
  refine ⟨hs, o, es, ep, g1, g2, g3, ?_, fun x hx => ?_, ?_⟩
  · rw [g4]
    unfold wU
    rw [List.map_map]
    rfl
  · unfold wU at hx
    obtain ⟨y, hy, rfl⟩ := List.mem_map.mp hx
    obtain ⟨i, hi, rfl⟩ := List.getElem_of_mem hy
    have hk := (e_ n r).1
    have e := n.1
    have el := mW n
    have hik : i < kvs.length := by omega
    have e1 : xs[i].1 = kvs[i].1 := by
      have := congrArg (fun l => l[i]?) e
      simp only [List.getElem?_map, List.getElem?_eq_getElem hi, List.getElem?_eq_getElem hik, Option.map_some, Option.some.injEq] at this
      exact this
    have rr := rep_at hk i (dO kvs[i].1) (.ref xs[i].2.1) (by rw [List.getElem?_map, List.getElem?_eq_getElem hik]; rfl) (by rw [List.getElem?_map, List.getElem?_eq_getElem hi]; rfl)
    rw [← e1] at rr
    refine ⟨lE ok KX _ _ _ rr rfl, ?_⟩
    rw [e1]
    exact (n.2.2.2.1 _ (List.mem_map.mpr ⟨_, List.getElem_mem hik, rfl⟩)).2
  · rw [wU_keys, n.1]
    exact n.2.1
theorem uP {kvs : List (NestedKey × U)} {xs : List NE} (n : Nok kvs xs) (r : aq K W io H (nU kvs) (nV xs)) (k : NestedKey) : match valN kvs k with
    | some u => ∃ b v q, atKey (wU xs) k = some (b, q) ∧ RelV v q ∧ Rep K W io H u v
    | none => atKey (wU xs) k = none := by
  obtain ⟨-, hv⟩ := e_ n r
  have e := n.1
  have hq := n.2.2.2.2
  clear n r
  unfold valN atKey wU
  induction kvs generalizing xs with
  | nil =>
    cases xs with
    | nil => rfl
    | cons x xs => cases e
  | cons p kvs ih =>
    cases xs with
    | nil => cases e
    | cons x xs =>
      rw [List.map_cons, List.map_cons, List.cons.injEq] at e
      rw [List.map_cons, List.map_cons] at hv
      obtain ⟨v, t, e1, r1, r2⟩ := hv.uncons
      cases e1
      rw [List.map_cons, List.map_cons] at hq
      cases hq with
      | cons hq1 hq2 =>
      rw [List.map_cons, List.find?_cons, List.find?_cons]
      by_cases c : p.1 = k
      · have c2 : x.1 = k := e.1.trans c
        simp only [c, c2, decide_true, Option.map_some]
        exact ⟨_, _, _, rfl, hq1, r1⟩
      · have c2 : x.1 ≠ k := fun z => c (e.1.symm.trans z)
        simp only [c, c2, decide_false]
        exact ih r2 e.2 hq2
theorem nR {kvs : List (NestedKey × U)} (k : NestedKey) : (valN kvs k).isSome = (kvs.any fun p => decide (p.1 = k)) := by
  unfold valN
  rw [Option.isSome_map]
  induction kvs with
  | nil => rfl
  | cons p l ih =>
    rw [List.find?_cons, List.any_cons]
    by_cases c : p.1 = k
    · simp [c]
    · simp only [c, decide_false, Bool.false_or]
      exact ih
theorem any_eq {kvs : List (NestedKey × U)} {xs : List NE} (e : xs.map (·.1) = kvs.map (·.1)) (k : NestedKey) : (xs.any fun x => decide (x.1 = k)) = (kvs.any fun p => decide (p.1 = k)) := by
  have a : (xs.any fun x => decide (x.1 = k)) = ((xs.map (·.1)).any fun z => decide (z = k)) := by rw [List.any_map]; rfl
  have b : (kvs.any fun x => decide (x.1 = k)) = ((kvs.map (·.1)).any fun z => decide (z = k)) := by rw [List.any_map]; rfl
  rw [a, b, e]
theorem iD (kvs : List (NestedKey × U)) (k : NestedKey) (v : U) : (putN kvs k v).map (·.1) = if (kvs.any fun p => decide (p.1 = k)) = true then kvs.map (·.1) else kvs.map (·.1) ++ [k] := by
  unfold putN
  rw [nR]
  split
  · rw [List.map_map]
    apply List.map_congr_left
    intro p _
    simp only [Function.comp]
    split <;> rfl
  · rw [List.map_append]; rfl
theorem rH (xs : List NE) (k : NestedKey) (b : Addr) (v : V) (u : Value) : (jQ xs k b v u).map (·.1) = if (xs.any fun p => decide (p.1 = k)) = true then xs.map (·.1) else xs.map (·.1) ++ [k] := by
  unfold jQ
  split
  · rw [List.map_map]
    apply List.map_congr_left
    intro p _
    simp only [Function.comp]
    split <;> rfl
  · rw [List.map_append]; rfl
theorem any_mem {kvs : List (NestedKey × U)} {k : NestedKey} : (kvs.any fun p => decide (p.1 = k)) = true ↔ k ∈ kvs.map (·.1) := by
  rw [List.any_eq_true, List.mem_map]
  constructor
  · rintro ⟨p, hp, e⟩
    exact ⟨p, hp, of_decide_eq_true e⟩
  · rintro ⟨p, hp, e⟩
    exact ⟨p, hp, decide_eq_true e⟩
theorem mK (kvs : List (NestedKey × U)) (k : NestedKey) (v : U) : (putN kvs k v).length ≤ kvs.length + 1 := by
  unfold putN
  split
  · rw [List.length_map]; omega
  · rw [List.length_append]; simp
theorem jY : ∀ {xs : List NE}, Vals (xs.map (·.2.2.1)) (xs.map (·.2.2.2)) → ∀ (k : NestedKey) (v : V) (u : Value), RelV v u → Vals ((xs.map (fun x => if x.1 = k then (x.1, x.2.1, v, u) else x)).map (·.2.2.1)) ((xs.map (fun x => if x.1 = k then (x.1, x.2.1, v, u) else x)).map (·.2.2.2))
  | [], _, _, _, _, _ => .nil
  | x :: xs, h, k, v, u, r => by
    rw [List.map_cons, List.map_cons] at h
    cases h with
    | cons h1 h2 =>
    rw [List.map_cons, List.map_cons, List.map_cons]
    refine .cons ?_ (jY h2 k v u r)
    by_cases c : x.1 = k
    · simp only [c, if_true]; exact r
    · simp only [c, if_false]; exact h1
theorem qZ {vs : List V} {us : List Value} (h : Vals vs us) {v : V} {u : Value} (r : RelV v u) : Vals (vs ++ [v]) (us ++ [u]) := by
  induction h with
  | nil => exact .cons r .nil
  | cons a b ih => exact .cons a ih
theorem Nok.put {kvs : List (NestedKey × U)} {xs : List NE} (n : Nok kvs xs) {ks : List NestedKey} (hd : (NestedKey.tup ks).depth ≤ 8) (hl : kvs.length < sizeLine) (b : Addr) (uv : U) {v : V} {u : Value} (r : RelV v u) : Nok (putN kvs (.tup ks) uv) (jQ xs (.tup ks) b v u) := by
  have ea := any_eq n.1 (.tup ks)
  refine ⟨?_, ?_, Nat.le_trans (mK _ _ _) hl, fun k hk => ?_, ?_⟩
  · rw [iD, rH, ea, n.1]
  · rw [iD]
    split
    · exact n.2.1
    · rename_i c
      rw [any_mem] at c
      refine List.nodup_append.mpr ⟨n.2.1, by simp, fun x hx y hy e => ?_⟩
      rw [List.mem_singleton.mp hy] at e
      exact c (e ▸ hx)
  · rw [iD] at hk
    split at hk
    · exact n.2.2.2.1 k hk
    · rcases List.mem_append.mp hk with z | z
      · exact n.2.2.2.1 k z
      · rw [List.mem_singleton.mp z]; exact ⟨⟨ks, rfl⟩, hd⟩
  · unfold jQ
    split
    · exact jY n.2.2.2.2 _ _ _ r
    · rw [List.map_append, List.map_append]
      exact qZ n.2.2.2.2 r
theorem uf {kvs : List (NestedKey × U)} {xs : List NE} (n : Nok kvs xs) (rr : aq K W io H (nU kvs) (nV xs)) {ks : List NestedKey} {b : Addr} {uv : U} {v : V} {u : Value} (rb : Rep K W io H (dO (.tup ks)) (.ref b)) (rv : Rep K W io H uv v) : aq K W io H (nU (putN kvs (.tup ks) uv)) (nV (jQ xs (.tup ks) b v u)) := by
  obtain ⟨h1, h2⟩ := e_ n rr
  have ea := any_eq n.1 (.tup ks)
  unfold putN jQ nU nV
  rw [nR, ea]
  split
  · refine ir ?_ ?_
    · have e1 : ((kvs.map fun p => if p.1 = NestedKey.tup ks then (p.1, uv) else p).map fun p => dO p.1) = kvs.map fun p => dO p.1 := by
        rw [List.map_map]
        apply List.map_congr_left
        intro p _
        simp only [Function.comp]
        split <;> rfl
      have e2 : ((xs.map fun x => if x.1 = NestedKey.tup ks then (x.1, x.2.1, v, u) else x).map fun x => V.ref x.2.1) = xs.map fun x => V.ref x.2.1 := by
        rw [List.map_map]
        apply List.map_congr_left
        intro p _
        simp only [Function.comp]
        split <;> rfl
      rw [e1, e2]
      exact h1
    · rename_i hany
      have e := n.1
      clear n rr h1 ea hany
      induction kvs generalizing xs with
      | nil =>
        cases xs with
        | nil => exact .nil
        | cons x xs => cases e
      | cons p kvs ih =>
        cases xs with
        | nil => cases e
        | cons x xs =>
          rw [List.map_cons, List.map_cons, List.cons.injEq] at e
          rw [List.map_cons, List.map_cons] at h2
          obtain ⟨v', t, e1, r1, r2⟩ := h2.uncons
          cases e1
          rw [List.map_cons, List.map_cons, List.map_cons, List.map_cons]
          refine .cons ?_ (ih r2 e.2)
          by_cases c : p.1 = NestedKey.tup ks
          · have c2 : x.1 = NestedKey.tup ks := e.1.trans c
            simp only [c, c2, if_true]; exact rv
          · have c2 : x.1 ≠ NestedKey.tup ks := fun z => c (e.1.symm.trans z)
            simp only [c, c2, if_false]; exact r1
  · rw [List.map_append, List.map_append, List.map_append, List.map_append]
    exact ir (ir h1 (.cons rb .nil)) (ir h2 (.cons rv .nil))
theorem rC (xs : List NE) (k : NestedKey) (b : Addr) (v : V) (u : Value) : storedH (wU xs) k b u = wU (jQ xs k b v u) := by
  have e : (atKey (wU xs) k).isSome = (xs.any fun x => decide (x.1 = k)) := by
    unfold atKey wU
    rw [Option.isSome_map]
    induction xs with
    | nil => rfl
    | cons x xs ih =>
      rw [List.map_cons, List.find?_cons, List.any_cons]
      by_cases c : x.1 = k
      · simp [c]
      · simp only [c, decide_false, Bool.false_or]
        exact ih
  unfold storedH jQ
  rw [e]
  split
  · unfold wU
    rw [List.map_map, List.map_map]
    apply List.map_congr_left
    intro x _
    simp only [Function.comp, putAt]
    split <;> rfl
  · unfold wU
    rw [List.map_append]
    rfl
end
end D
namespace D
open PySem L2
noncomputable def pU [Wor] : DE := fun _ st => .ok (.ref st.length) (st ++ [.dcN Wor.w []])
open Classical in
noncomputable def dM [Wor] (st : Store) : U → Option (List (NestedKey × U))
  | .ref n => match st[n]? with
    | some (.dcN w kvs) => if w = Wor.w then some kvs else none
    | _ => none
  | _ => none
noncomputable def tupK : U → Option (List NestedKey)
  | .tup us => (toKeys us).bind fun ks => if (NestedKey.tup ks).depth ≤ 8 then some ks else none
  | _ => none
noncomputable def inN1 [Wor] (st : Store) (k u : U) : Option Bool := (dM st u).bind fun kvs => (tupK k).map fun ks => (valN kvs (.tup ks)).isSome
noncomputable def nu [Wor] (st : Store) (u k : U) : Option U := (dM st u).bind fun kvs => (tupK k).bind fun ks => valN kvs (.tup ks)
noncomputable def ixN' [Wor] (f g : DE) : DE := fun env st => (f env st).bind fun u st1 => (g env st1).bind fun k st2 => Rs.of (nu st2 u k) st2
noncomputable def inN [Wor] (f g : DE) : DE := fun env st => (f env st).bind fun k st1 => (g env st1).bind fun u st2 => Rs.of ((inN1 st2 k u).map U.bl) st2
noncomputable def ninN [Wor] (f g : DE) : DE := fun env st => (f env st).bind fun k st1 => (g env st1).bind fun u st2 => Rs.of ((inN1 st2 k u).map fun b => U.bl (!b)) st2
noncomputable def j7 [Wor] (st : Store) (u k v : U) : Option Ob := (dM st u).bind fun kvs => (tupK k).bind fun ks => if kvs.length < sizeLine then some (.dcN Wor.w (putN kvs (.tup ks) v)) else none
noncomputable def pQ [Wor] (f g e : DE) : DS := fun env st => (e env st).out env fun v st1 => (f env st1).out env fun u st2 => (g env st2).out env fun k st3 => match u with
  | .ref n => match j7 st3 (.ref n) k v with
    | some ob' => .nx env (st3.set n ob')
    | none => .bad
  | _ => .bad
theorem rB {k : U} {ks : List NestedKey} (h : tupK k = some ks) : dO (.tup ks) = k ∧ (NestedKey.tup ks).depth ≤ 8 := by
  unfold tupK at h
  split at h
  · rename_i us
    cases e : toKeys us with
    | none => rw [e] at h; cases h
    | some l =>
      rw [e, Option.bind_some] at h
      split at h
      · rename_i hd
        cases h
        refine ⟨?_, hd⟩
        show U.tup (eG ks) = _
        rw [lH us ks e]
      · cases h
  · cases h
theorem mY [Wor] {st : Store} {u : U} {kvs : List (NestedKey × U)} (h : dM st u = some kvs) : ∃ n, u = .ref n ∧ st[n]? = some (.dcN Wor.w kvs) := by
  unfold dM at h
  split at h
  · rename_i n
    split at h
    · rename_i w kvs' q
      split at h
      · rename_i hw
        cases h
        exact ⟨n, rfl, by rw [q, hw]⟩
      · cases h
    · cases h
  · cases h
@[simp] theorem jy [Wor] {st : Store} {n : Nat} {kvs : List (NestedKey × U)} (h : st[n]? = some (.dcN Wor.w kvs)) : dM st (.ref n) = some kvs := by
  unfold dM
  simp only [h, if_true]
section
variable [Wor] {K : PySem.W.Frag} {G : Addr → Prop} {io : List Addr} {st : Store} {H : Hp}
theorem mX (ok : Ok K G io st H) {u k : U} {x y : V} {kvs : List (NestedKey × U)} {ks : List NestedKey} (r : Rep K (Wf G io) io H u x) (rk : Rep K (Wf G io) io H k y) (h : dM st u = some kvs) (hk : tupK k = some ks) :
    ∃ n a xs b, u = .ref n ∧ st[n]? = some (.dcN Wor.w kvs) ∧ io[n]? = some a ∧ x = .ref a ∧ y = .ref b ∧ H a = some (bZ Wor.w a xs) ∧ Nok kvs xs ∧ aq K (Wf G io) io H (nU kvs) (nV xs) ∧ Rep K (Wf G io) io H (dO (.tup ks)) (.ref b) ∧ (NestedKey.tup ks).depth ≤ 8 := by
  obtain ⟨n, rfl, q⟩ := mY h
  unfold Rep at r
  obtain ⟨a, e1, rfl⟩ := r
  obtain ⟨xs, q1, q2, q3⟩ := ok.obs n _ a q e1
  obtain ⟨hk1, hk2⟩ := rB hk
  rw [← hk1] at rk
  have rk' : ∃ b vs, y = .ref b ∧ LT K (Wf G io) H b vs ∧ aq K (Wf G io) io H (eG ks) vs := by unfold dO Rep at rk; exact rk
  obtain ⟨b, vs, rfl, -, -⟩ := rk'
  exact ⟨n, a, xs, b, rfl, q, e1, rfl, rfl, q1, q2, q3, rk, hk2⟩
noncomputable def NGet (K : PySem.W.Frag) (H : Hp) (x y : V) (kvs : List (NestedKey × U)) (ks : List NestedKey) (W : Addr → Prop) (io : List Addr) : Prop :=
  ∃ a xs b, x = .ref a ∧ y = .ref b ∧ H a = some (bZ Wor.w a xs) ∧ Nok kvs xs ∧ aq K W io H (nU kvs) (nV xs) ∧ Rep K W io H (dO (.tup ks)) (.ref b) ∧ (NestedKey.tup ks).depth ≤ 8
end
section
variable [Wor] {X : Cx} {xs : XS} {wx : WX} {pos : Pos}
theorem mV {P : Program} {w : World} {H : Hp} {h : Heap} {a : Addr} {xs : List NE} (g : kJ w a xs h) : ObjOk P w H h a (bZ w a xs) := by
  have g0 := g
  obtain ⟨hs, o, es, ep, g1, g2, g3, g4⟩ := g0
  refine (show kJ w a xs h ∧ (∃ o, h.get? a = some o) ∧ ∀ h1 h2 : Heap, kJ w a xs h1 → (∀ o, h1.get? a = some o → h2.get? a = some o) → kJ w a xs h2 from ⟨g, ⟨o, g1⟩, fun h1 h2 x k => ?_⟩)
  obtain ⟨q0, o', es', ep', q1, q2, q3, q4⟩ := x
  exact ⟨q0, o', es', ep', k _ q1, q2, q3, q4⟩
theorem uB : PE X (.Dict [] [] pos) (fun _ H Q => ∀ p, H p = none → Q (.ref p) (upd H p (bZ X.w p []))) := ⟨fun pins s σ H Q I h =>
  wpAny_Dict_empty ⟨.ref s.heap.objs.size, _, I.laid (a := s.heap.objs.size) (o := bZ X.w s.heap.objs.size []) (t' := s.toks) (fun _ _ q => Heap.get?_push_of_some _ q) (Nat.le_refl _)
    (mV ⟨beq_eq_false_iff_ne.mpr (Ne.symm (Nat.ne_of_lt I.big)), _, #[], 0, Heap.get?_push_size _ rfl, ⟨rfl, rfl, rfl⟩, rfl, rfl⟩), rfl, h _ (I.hok.fresh (Nat.le_refl _))⟩⟩
theorem nok_nil : Nok [] [] := ⟨rfl, List.nodup_nil, Nat.zero_le _, fun _ h => absurd h List.not_mem_nil, .nil⟩
theorem d_refN0 (hw : X.w = Wor.w) : PE X (.Dict [] [] pos) (tD X.K xs wx pU) := aW uB fun sg H Q h p hp => by
  obtain ⟨G, io, st, env, ok, er, w⟩ := h
  rw [hw]
  have sm : Same H (upd H p (bZ Wor.w p [])) := aO hp
  have m : b_ G io H G (io ++ [p]) (upd H p (bZ Wor.w p [])) := ⟨⟨[p], rfl⟩, fun b o n h => ⟨sm b o h, fun z => z.elim (fun y => n (.inl y)) fun y => by
    rcases List.mem_append.mp y with y | y
    · exact n (.inr y)
    · rw [List.mem_singleton] at y
      subst y
      rw [hp] at h; cases h⟩⟩
  obtain ⟨ok2, e2⟩ := ok.alloc (o := bZ Wor.w p []) (ob := .dcN Wor.w []) hp pX ⟨[], upd_same, nok_nil, .nil⟩
  refine w (io ++ [p]) _ ok2 e2 (.ref p) ?_
  unfold Rep
  refine ⟨p, ?_, rfl⟩
  rw [ok.len, List.getElem?_append_right (Nat.le_refl _)]
  simp
section
variable {pins : List (Addr × Obj)} {s : Shared} {σ : L2.St} {H : Hp} {W : Addr → Prop} {io : List Addr} {x y : V} {v u : Value} {kvs : List (NestedKey × U)} {ks : List NestedKey} {A : Around} {E : Value → Shared → Prop}
theorem NGet.kit (hw : X.w = Wor.w) (I : Inv X pins σ H s) (g : NGet X.K H x y kvs ks W io) (rx : RelV x v) (ry : RelV y u) : ∃ a b xs, v = .ref a ∧ u = .ref b ∧ x = .ref a ∧ y = .ref b ∧ H a = some (bZ Wor.w a xs) ∧ Nok kvs xs ∧ aq X.K W io H (nU kvs) (nV xs) ∧ Rep X.K W io H (dO (.tup ks)) (.ref b) ∧ (NestedKey.tup ks).depth ≤ 8 ∧
    (a == sysModules) = false ∧ s.heap.DictOfH (nestedKind X.prog X.w) a (wU xs) ∧ (nestedKind X.prog X.w).is s.heap (.tup ks) b := by
  obtain ⟨a, xs, b, rfl, rfl, q1, q2, q3, q4, q5⟩ := g
  cases (show v = Value.ref a from rx)
  cases (show u = Value.ref b from ry)
  obtain ⟨d1, d2⟩ := rV I.hok I.kIn (by rw [hw]; exact q1) q2 q3
  exact ⟨a, b, xs, rfl, rfl, rfl, rfl, q1, q2, q3, q4, q5, d1, d2, lE I.hok I.kIn _ _ _ q4 rfl, q5⟩
end
noncomputable def rIxN : R2 := fun x y H Q => ∃ W io kvs ks uv K, K = X.K ∧ NGet K H x y kvs ks W io ∧ valN kvs (.tup ks) = some uv ∧ ∀ v, Rep K W io H uv v → Q v H
theorem ix_nest (hw : X.w = Wor.w) (hu : X.A.units + 65 < cLine) : IxR X (rIxN (X := X)) := by
  intro value slice pins s sg H x y v u Q I rx ry ⟨W, io, kvs, ks, uv, K, eK, g, hv, q⟩ hs
  subst eK
  obtain ⟨a, b, xs, rfl, rfl, rfl, rfl, q1, q2, q3, q4, q5, d1, d2, d3⟩ := g.kit hw I rx ry
  have z := uP q2 q3 (.tup ks)
  rw [hv] at z
  obtain ⟨b', v', p, h1, h2, h3⟩ := z
  exact PyProof.Rows.tail_any (ops := [.ref a, .ref b]) d2.typeIs PySem.F.slot_dict_getitem.lookup
    (wpAny_getItem_heap (knd := nestedKind X.prog X.w) (by show X.A.units + 1 + 8 < cLine; omega) d3 d2 h1 ⟨v', H, I.tok _, h2, q v' h3⟩) hs
noncomputable def rSetN : TSet := fun o i v H Q => ∃ W io kvs ks K, K = X.K ∧ NGet K H o i kvs ks W io ∧ kvs.length < sizeLine ∧
  ∀ a b xs u', o = .ref a → i = .ref b → H a = some (bZ Wor.w a xs) → Nok kvs xs → aq K W io H (nU kvs) (nV xs) → Rep K W io H (dO (.tup ks)) (.ref b) → (NestedKey.tup ks).depth ≤ 8 → RelV v u' → Q (upd H a (bZ Wor.w a (jQ xs (.tup ks) b v u')))
theorem tX (hw : X.w = Wor.w) (hu : X.A.units + 65 < cLine) : PSet X (rSetN (X := X)) := by
  intro pins s σ H o i v ov iv u Q I ro ri rv ⟨W, io, kvs, ks, K, eK, g, hl, q⟩
  subst eK
  obtain ⟨a, b, xs, rfl, rfl, rfl, rfl, q1, q2, q3, q4, q5, d1, d2, d3⟩ := g.kit hw I ro ri
  have hz : (wU xs).length ≤ sizeLine := by unfold wU; rw [List.length_map, mW q2]; omega
  refine wpAny_setItem_heap (hsz := hz) (knd := nestedKind X.prog X.w) (by show X.A.units + 1 + 8 < cLine; omega) d3 d2 fun h' dd hs => ?_
  refine ⟨_, ?_, q a b xs u rfl rfl q1 q2 q3 q4 q5 rv⟩
  rw [rC] at dd
  obtain ⟨o, es, ep, g1, g2, g3, g4, -, -⟩ := dd
  rw [← hw]
  refine d_write I (by rw [q1]; exact True.intro) hs ⟨o, g1⟩ (mV ⟨d1, o, es, ep, g1, g2, g3, ?_⟩)
  rw [g4]
  unfold wU
  rw [List.map_map]
  rfl
theorem d_ixN {a b : Expr} {f g : DE} (hw : X.w = Wor.w) (hu : X.A.units + 65 < cLine) (ha : PE X a (tD X.K xs wx f)) (hb : PE X b (tD X.K xs wx g)) (hs : PlainIx b) : PE X (.Subscript a b pos) (tD X.K xs wx (ixN' f g)) :=
  aW (pe_ix (ix_nest hw hu) ha hb hs) fun sg H Q h => by
    obtain ⟨G, io, st, env, ok, er, w⟩ := h
    refine ⟨G, io, st, env, ok, er, w.bind.aX fun st1 io1 H1 u ok1 e1 w1 x rx => ?_⟩
    refine ⟨G, io1, st1, env, ok1, er.ext ok.dj e1, w1.bind.aX fun st2 io2 H2 k ok2 e2 w2 y ry => ?_⟩
    obtain ⟨r, hr, w3⟩ := w2.pure
    unfold nu at hr
    cases h1 : dM st2 u with
    | none => rw [h1] at hr; cases hr
    | some kvs =>
      cases h2 : tupK k with
      | none => rw [h1, h2] at hr; cases hr
      | some ks =>
        rw [h1, h2] at hr
        have hr : valN kvs (.tup ks) = some r := hr
        obtain ⟨n, a, xs, b, rfl, p1, p2, rfl, rfl, p3, p4, p5, p6, p7⟩ := mX ok2 (rx.ext e2) ry h1 h2
        exact ⟨_, _, kvs, ks, r, _, rfl, ⟨a, xs, b, rfl, rfl, p3, p4, p5, p6, p7⟩, hr, fun v rv => w3.here ok2 v rv⟩
theorem s_putN {o i e : Expr} {f g h : DE} {pos' : Pos} (hw : X.w = Wor.w) (hu : X.A.units + 65 < cLine) (ho : PE X o (tD X.K xs wx f)) (hi : PE X i (tD X.K xs wx g)) (he : PE X e (tD X.K xs wx h)) (hs : swapsWithSole [.Subscript o i pos'] e pos.line X.env = Pure.pure false := by rfl) (hw' : swappedStores [.Subscript o i pos'] e X.env = Pure.pure none := by rfl)
    (h1 : (assignEach [.Subscript o i pos'] X.env).map (·.2) = [assign (.Subscript o i pos') X.env] := by rfl)
    (ha : ∀ v, assign (.Subscript o i pos') X.env v = (do
      let ov ← holding [v] (eval o X.env)
      let iv ← holding [v, ov] (eval i X.env)
      standAt pos'
      holding [v, ov, iv] (setItem ov iv v)
      release [v, ov, iv] []) := by intro _; rfl) : PS X (.Assign [.Subscript o i pos'] e pos) (tDS X.K xs wx (pQ f g h)) :=
  gG (ps_asg he (pg_sub ho hi (tX hw hu) ha) hs hw' h1) fun D sg H q => by
    obtain ⟨F, io, st, env, fr, w⟩ := q
    refine ⟨Gs F env sg, io, st, env, fr.ok, fr.er, (aV.expr fr w).aX fun st1 io1 H1 v ok1 e1 z x rx => ?_⟩
    refine ⟨Gs F env sg, io1, st1, env, z.1.ok, z.1.er, (aV.expr z.1 z.2).aX fun st2 io2 H2 u ok2 e2 z2 y ry => ?_⟩
    refine ⟨Gs F env sg, io2, st2, env, z2.1.ok, z2.1.er, (aV.expr z2.1 z2.2).aX fun st3 io3 H3 k ok3 e3 z3 t rt => ?_⟩
    have z4 := z3.2
    have rx3 := (rx.ext e2).ext e3
    cases u with
    | ref n =>
      simp only at z4
      split at z4
      · rename_i ob' hp
        unfold j7 at hp
        cases h1 : dM st3 (.ref n) with
        | none => rw [h1] at hp; cases hp
        | some kvs =>
          cases h2 : tupK k with
          | none => rw [h1, h2] at hp; cases hp
          | some ks =>
            rw [h1, h2, Option.bind_some, Option.bind_some] at hp
            split at hp
            · rename_i hl
              cases hp
              obtain ⟨n', a, xs', b, en, p1, p2, rfl, rfl, p3, p4, p5, p6, p7⟩ := mX ok3 (ry.ext e3) rt h1 h2
              cases en
              refine ⟨_, _, kvs, ks, _, rfl, ⟨a, xs', b, rfl, rfl, p3, p4, p5, p6, p7⟩, hl, fun a2 b2 xs2 u' ea eb r1 r2 r3 r4 r5 rv => ?_⟩
              cases ea; cases eb
              obtain ⟨f4, e4⟩ := z3.1.tL (ob' := .dcN Wor.w (putN kvs (.tup ks) v)) p1 p2 (o' := bZ Wor.w a (jQ xs2 (.tup ks) b x u')) pX fun m => ⟨_, upd_same, r2.put r5 hl b v rv, (uf r2 r3 r4 rx3).mono m⟩
              exact z4 _ _ _ f4 e4
            · cases hp
      · exact z4.elim
    | _ => exact z4.elim
end
@[simp] theorem refN0_ap [Wor] (env : Env) (st : Store) : pU env st = .ok (.ref st.length) (st ++ [.dcN Wor.w []]) := (rfl)
@[simp] theorem ixN'_ap [Wor] (f g : DE) (env : Env) (st : Store) : ixN' f g env st = (f env st).bind fun u st1 => (g env st1).bind fun k st2 => Rs.of (nu st2 u k) st2 := (rfl)
@[simp] theorem inN_ap [Wor] (f g : DE) (env : Env) (st : Store) : inN f g env st = (f env st).bind fun k st1 => (g env st1).bind fun u st2 => Rs.of ((inN1 st2 k u).map U.bl) st2 := (rfl)
@[simp] theorem ninN_ap [Wor] (f g : DE) (env : Env) (st : Store) : ninN f g env st = (f env st).bind fun k st1 => (g env st1).bind fun u st2 => Rs.of ((inN1 st2 k u).map fun b => U.bl (!b)) st2 := (rfl)
@[simp] theorem sPutN_ap [Wor] (f g e : DE) (env : Env) (st : Store) : pQ f g e env st = (e env st).out env fun v st1 => (f env st1).out env fun u st2 => (g env st2).out env fun k st3 => match u with
  | .ref n => match j7 st3 (.ref n) k v with
    | some ob' => .nx env (st3.set n ob')
    | none => .bad
  | _ => .bad := (rfl)
end D
namespace D
open PySem L2
noncomputable def iI (f : DE) : DL := fun env st => (f env st).bind fun u st1 => match u with
  | .int n => if 0 ≤ n ∧ n ≤ 16777216 then .ok ((List.range n.toNat).map fun i => U.int (i : Nat)) st1 else .bad
  | _ => .bad
@[simp] theorem listRg_ap (f : DE) (env : Env) (st : Store) : iI f env st = (f env st).bind fun u st1 => match u with
  | .int n => if 0 ≤ n ∧ n ≤ 16777216 then .ok ((List.range n.toNat).map fun i => U.int (i : Nat)) st1 else .bad
  | _ => .bad := (rfl)
section
variable {X : Cx} {xs : XS} {wx : WX} {pos : Pos}
theorem j6 {K : PySem.W.Frag} {W : Addr → Prop} {io : List Addr} {H : Hp} : ∀ (l : List Nat), aq K W io H (l.map fun i => U.int (i : Nat)) (l.map fun i => V.int (0 + (i : Nat)))
  | [] => .nil
  | i :: l => .cons (by unfold Rep; show V.int (0 + (i : Int)) = V.int i; rw [Int.zero_add]) (j6 l)
theorem uZ {x y : Str} {p q pp : Pos} {e : Expr} {f : DE} (hc : X.calm = true) (hx : x = "list") (hg : Gl X x) (hm : X.mg x = none) (hy : y = "range") (hg' : Gl X y) (hm' : X.mg y = none) (he : PE X e (tD X.K xs wx f))
    (n1 : starEach [e] X.env = (false, eval e X.env) :: starEach [] X.env := by rfl)
    (n2 : starEach [Expr.Call (.Name y q) [e] [] pp] X.env = (false, eval (.Call (.Name y q) [e] [] pp) X.env) :: starEach [] X.env := by rfl) :
    PE X (.Call (.Name x p) [.Call (.Name y q) [e] [] pp] [] pos) (tDL X.K xs wx (iI f)) := by
  subst hx hy
  refine aW (pe_listRg hc hg hm (prg_1 hg' hm' he n1) n2) fun sg H Q h => ?_
  obtain ⟨G, io, st, env, ok, er, w⟩ := h
  refine ⟨G, io, st, env, ok, er, w.bind.aX fun st1 io1 H1 u ok1 e1 w1 x rx => ?_⟩
  split at w1
  · rename_i n
    have et : x = .int n := by unfold Rep at rx; exact rx
    subst et
    split at w1
    · rename_i hz
      refine ⟨n, rfl, ⟨by omega, by omega, by omega, by omega, by omega⟩, fun a ha => ?_⟩
      have r := j6 (K := X.K) (W := Wf G io1) (io := io1) (H := H1) (List.range n.toNat)
      have := w1.here ok1 _ a r ha
      unfold rgV
      rw [Int.sub_zero]
      exact this
    · exact w1.elim
  · exact w1.elim
end
end D
namespace PyProof.Rows
open PySem PySem.Spec
section
variable {prog : Program} {w : World} {A : Around} {E : Value → Shared → Prop} {s : Shared}
theorem jM {l : Addr} {vs : List Value} {Q : List Value → Shared → Prop} (hl : IsTup s.heap l vs.toArray)
    (h : Q vs { s with heap := (s.heap.push (seqObj "list" #[] 0)).update s.heap.objs.size (Obj.mapSeq (· ++ vs.toArray)) }) (hsz : vs.length ≤ sizeLine := by size_fits) :
    wpAny (model prog w) A (collect (.ref l)) Q E s := by
  obtain ⟨o, ho, hc, n, hd⟩ := id hl
  unfold collect
  refine wpAny_bind (wpAny_runValue (codeAny_builtin entry_proto_collect' ?_))
  show wpAny _ _ (do again (.builtin "list.__iadd__" ⟨[← newList [], .ref l], []⟩)) _ _ s
  refine wpAny_bind (wpAny_newList (wpAny_pure ⟨Code.quiet_builtin _ (by decide +kernel), codeAny_builtin entry_list_iadd' ?_⟩))
  show wpAny _ _ (Builtin.List.listExtendWith (.ref s.heap.objs.size) (.ref l) (.ref s.heap.objs.size)) _ _ { s with heap := s.heap.push (seqObj "list" #[] 0) }
  unfold Builtin.List.listExtendWith
  have ho' : (s.heap.push (seqObj "list" #[] 0)).get? l = some o := Heap.get?_push_of_some _ ho
  refine wpAny_bind (wpAny_typeOf (T := "tuple") ⟨o, ho', hc⟩ ?_)
  have ht : (Value.type "tuple" == Value.type "tuple") = true := by rfl
  rw [if_pos (by rw [ht]; simp)]
  refine wpAny_bind (listItems_at ho' hd ?_)
  refine wpAny_bind (listItems_at (xs := #[]) (n := 0) (Heap.get?_push_size _ rfl) rfl ?_)
  rw [if_neg (by simp)]
  refine wpAny_bind (listUpdate_at (xs := #[]) (n := 0) (Heap.get?_push_size _ rfl) rfl ?_ (Nat.zero_le _) (by show (#[] ++ vs.toArray).size ≤ sizeLine + 1; simp only [Array.size_append, List.size_toArray, List.length_nil]; omega))
  refine wpAny_pure ?_
  show wpAny (model prog w) A (do
      let o ← load s.heap.objs.size
      match o.data with
      | .seq xs _ => pure xs.toList
      | _ => unsupported "internal:collect") Q E { s with heap := (s.heap.push (seqObj "list" #[] 0)).update s.heap.objs.size (Obj.mapSeq (· ++ vs.toArray)) }
  refine wpAny_bind (wpAny_load (get?_update_seq (Heap.get?_push_size _ rfl) _) ?_)
  show wpAny _ _ (pure ((#[] : Array Value) ++ vs.toArray).toList) Q E _
  rw [show ((#[] : Array Value) ++ vs.toArray).toList = vs by simp]
  exact wpAny_pure h
theorem tU {κ : KeyKind} (hO : κ.OneLt) {l : Addr} {vs : List Value} {Q : Value → Shared → Prop} (hl : IsTup s.heap l vs.toArray) (h0 : KeysOf κ (pairsOf vs)) (hkk : ∀ v₁ v₂ rest, vs = v₁ :: v₂ :: rest → keyKind' (v₁ :: v₂ :: rest).toArray = pure oneType') (h64 : vs.length < 64)
    (h : ∀ st' : SortSt, (arrOf st').Perm (pairsOf vs) → SortedToK κ (arrOf st') (pairsOf vs).size → Q (.ref (s.heap.objs.size + 1)) { s with heap := sortedAll s.heap vs ((arrOf st').map (·.2)) }) :
    wpAny (model prog w) A (call (.builtin "sorted") [.ref l]) Q E s := by
  refine Calls.call_function_entry kind_sorted plain_sorted entry_sorted (args_sorted1 _) ?_
  unfold Builtin.«sorted»
  refine wpAny_bind (m := checkCount "sorted" 1 1 _) (wpAny_pure ?_)
  refine wpAny_bind (jM hl ?_)
  refine wpAny_bind (wpAny_newList ?_)
  have hsz : ((s.heap.push (seqObj "list" #[] 0)).update s.heap.objs.size (Obj.mapSeq (· ++ vs.toArray))).objs.size = s.heap.objs.size + 1 := by
    rw [Heap.size_update, size_push']
  have hoL : (((s.heap.push (seqObj "list" #[] 0)).update s.heap.objs.size (Obj.mapSeq (· ++ vs.toArray))).push (seqObj "list" vs.toArray 0)).get? (s.heap.objs.size + 1) = some (seqObj "list" vs.toArray 0) := by
    rw [← hsz]; exact Heap.get?_push_size _ rfl
  show wpAny _ _ _ _ _ { s with heap := ((s.heap.push (seqObj "list" #[] 0)).update s.heap.objs.size (Obj.mapSeq (· ++ vs.toArray))).push (seqObj "list" vs.toArray 0) }
  rw [hsz]
  refine wpAny_bind (wpAny_holding (wpAny_call_entry slot_list_sort ⟨_, hoL, rfl⟩ entry_list_sort (list_sort_treeK hO hoL h0 hkk h64 fun st' a1 a2 => ⟨_, rfl, ?_⟩) (args_list_sort _)))
  exact wpAny_pure ⟨_, rfl, h st' a1 a2⟩
theorem lg {l : Addr} {vs : List Value} {ss : List Str} {Q : Value → Shared → Prop} (hl : IsTup s.heap l vs.toArray) (hS : StrsAre vs ss) (h64 : vs.length < 64)
    (h : ∀ (out : Array Value) (ss' : List Str), StrsAre out.toList ss' → ss'.Perm ss → sortedS ss' = true → Q (.ref (s.heap.objs.size + 1)) { s with heap := sortedAll s.heap vs out }) :
    wpAny (model prog w) A (call (.builtin "sorted") [.ref l]) Q E s := by
  refine tU strKind_oneLt hl hS.keysOf (fun v₁ v₂ rest e => keyKind_strs (by rw [← e]; exact hS)) h64 fun st' hp hs => ?_
  obtain ⟨ss', h1, h2, h3⟩ := sorted_out_str hS hp hs
  exact h _ ss' h1 h2 h3
end
end PyProof.Rows
namespace D
open PySem L2 PyProof.Rows
noncomputable def rSortTu (K : PySem.W.Frag) : List V → Hp → VK → Prop := fun vs H Q => ∃ (a : Addr) (xs : List Str), vs = [V.ref a] ∧ SqT K H a (xs.map V.str) ∧ xs.length < 64 ∧
  ∀ (ys : List Str) (p : Addr), ys.Perm xs → sortedS ys = true → H p = none → Q (.ref p) (upd H p (.lst (ys.map V.str)))
theorem sO {X : Cx} : CallR X (.builtin "sorted") (rSortTu X.K) := by
  intro pins s σ H vs us Q I r h
  obtain ⟨a, xs, rfl, hs, h64, q⟩ := h
  obtain ⟨its, rv, hl, _⟩ := I.tuple hs
  rw [Vals.ref1 r]
  have hlen0 := rv.length
  rw [List.length_map] at hlen0
  refine PyProof.Rows.lg hl rv.strs (by rw [← hlen0]; exact h64) fun out ys h1 h2 h3 => ?_
  obtain ⟨ep, he'⟩ := PyProof.Rows.sortedAll_at s.heap its out
  have hlen : (ys.map V.str).length ≤ sizeLine := by rw [List.length_map, h2.length_eq]; exact small64 h64
  exact ⟨.ref _, upd H (s.heap.objs.size + 1) (.lst (ys.map V.str)), I.laid (t' := s.toks) (fun _ _ => PyProof.Rows.sortedAll_old) (Nat.le_succ _) ⟨hlen, out.toList, ep, vals_of_strs h1, he'⟩, rfl, q ys _ h2 h3 (I.hok.fresh (Nat.le_succ _))⟩
noncomputable def fP (u : U) : Option (List U) := (match u with
  | .tup us => bB us
  | _ => none).bind fun ys => if ys.length < 64 then some ((bT ys).map U.str) else none
section
variable {X : Cx} {xs : XS} {wx : WX} {pos : Pos}
theorem uY {e : Expr} {p : Pos} {f : DE} (hg : Gl X "sorted") (hm : X.mg "sorted" = none) (he : PE X e (tD X.K xs wx f)) (hs : starEach [e] X.env = (false, eval e X.env) :: starEach [] X.env := by rfl) :
    PE X (.Call (.Name "sorted" p) [e] [] pos) (tDL X.K xs wx (itE fP f)) := by
  refine aW (pe_callB (pos := pos) (p := p) sO hg hm kE (pa_cons he pa_nil hs) (by decide) (by decide) hs rfl) fun sg H Q h => ?_
  obtain ⟨G, io, st, env, ok, er, w⟩ := h
  refine ⟨G, io, st, env, ok, er, w.bind.aX fun st1 io1 H1 u ok1 e1 w1 v rv => ?_⟩
  obtain ⟨ws, hu, w2⟩ := w1.pure
  unfold fP at hu
  rw [Option.bind_eq_some_iff] at hu
  obtain ⟨ys, hy, hu⟩ := hu
  split at hu
  · rename_i hz
    cases hu
    cases u with
    | tup us =>
      obtain ⟨l, vs, rfl, ll, rr⟩ := (show ∃ a vs, v = .ref a ∧ LT X.K (Wf G io1) H1 a vs ∧ aq X.K (Wf G io1) io1 H1 us vs by unfold Rep at rv; exact rv)
      have hy : bB us = some ys := hy
      rw [gK hy] at rr
      rw [aq.ofStrs rr] at ll
      refine ⟨l, ys, rfl, ll.sq, hz, fun zs q pm hs hq => ?_⟩
      rw [sort_unique hs pm]
      exact w2.here ok1 _ q (aq.strs _) hq
    | _ => cases hy
  · cases hu
end
end D
namespace D
open PySem L2 PySem.Spec PyProof.Rows
noncomputable def sTryF2 (t : List (Str × Bool)) (i j : Nat) (f1 f2 : Str) (b : DS) : DS := fun env st => match b env st with
  | .ex c fs env' st' => match fW t c with
    | some true => match fs.lookup f1, fs.lookup f2 with
      | some v, some w => if i < env'.length then .nx ((env'.set j (.val (.tup [v, w]))).set i .un) st' else .bad
      | _, _ => .bad
    | some false => .ex c fs env' st'
    | none => .bad
  | o => o
@[simp] theorem sTryF2_ap (t : List (Str × Bool)) (i j : Nat) (f1 f2 : Str) (b : DS) (env : Env) (st : Store) : sTryF2 t i j f1 f2 b env st = match b env st with
  | .ex c fs env' st' => match fW t c with
    | some true => match fs.lookup f1, fs.lookup f2 with
      | some v, some w => if i < env'.length then .nx ((env'.set j (.val (.tup [v, w]))).set i .un) st' else .bad
      | _, _ => .bad
    | some false => .ex c fs env' st'
    | none => .bad
  | o => o := (rfl)
end D
namespace D
open PySem L2
section
variable (i j : Int) (x y : Str) (us ws : List U) (ns : List Int) (b : Bool)
@[simp] theorem len_str : gJ [.str x] = if x.length ≤ 16777216 then some (.int x.length) else none := by rw [← aD]; rfl
@[simp] theorem add_strs : bQ (.str x) (.str y) = if x.length + y.length ≤ 16777216 then some (.str (x ++ y)) else none := by rw [← aD]; rfl
@[simp] theorem add_tups : bQ (.tup us) (.tup ws) = if us.length + ws.length ≤ 16777216 then some (.tup (us ++ ws)) else none := by rw [← aD]; rfl
@[simp] theorem nY : bQ (.lst us) (.lst ws) = if us.length + ws.length ≤ 16777216 then some (.lst (us ++ ws)) else none := by rw [← aD]; rfl
@[simp] theorem mul_int : dN (.int i) (.int j) = if bJ i || bJ j then some (.int (i * j)) else none := (rfl)
@[simp] theorem mod_int : mod2 (.int i) (.int j) = if 0 < j then some (.int (i % j)) else none := (rfl)
@[simp] theorem fdiv_int : jd (.int i) (.int j) = if 0 < j ∧ j < 1073741824 then some (.int (i / j)) else none := (rfl)
@[simp] theorem gt_str : gt2 (.str x) (.str y) = some (.bl (ltC y x)) := (rfl)
@[simp] theorem ge_str : ge2 (.str x) (.str y) = some (.bl (!ltC x y)) := (rfl)
@[simp] theorem szT_ap : szT us = if us.length ≤ 16777216 then some (.tup us) else none := by rw [← aD]; rfl
@[simp] theorem szL_ap : szL us = if us.length ≤ 16777216 then some (.lst us) else none := by rw [← aD]; rfl
@[simp] theorem items_scr : items (.scr ns) = some (ns.map U.int) := (rfl)
@[simp] theorem items_str : items (.str x) = some (x.cps.toList.map fun c => U.str ⟨#[c]⟩) := (rfl)
@[simp] theorem lstL_lst : lstL [.lst us] = some us := (rfl)
@[simp] theorem lstL_tup : lstL [.tup us] = some us := (rfl)
@[simp] theorem lstL_scr : lstL [.scr ns] = some (ns.map U.int) := (rfl)
@[simp] theorem tupN_lst : eU [.lst us] = some (.tup us) := (rfl)
@[simp] theorem tupN_tup : eU [.tup us] = some (.tup us) := (rfl)
@[simp] theorem intN_int : sG [.int i] = some (.int i) := (rfl)
@[simp] theorem intN_bl : sG [.bl b] = some (.int (if b then 1 else 0)) := (rfl)
@[simp] theorem enum_lst : bj [.lst us] = some (eV us) := (rfl)
@[simp] theorem enum_tup : bj [.tup us] = some (eV us) := (rfl)
@[simp] theorem rev_lst : rev1 (.lst us) = some us.reverse := (rfl)
@[simp] theorem rev_tup : rev1 (.tup us) = some us.reverse := (rfl)
@[simp] theorem back_lst : back1 (.lst us) = some (.lst us.reverse) := (rfl)
@[simp] theorem back_tup : back1 (.tup us) = some (.tup us.reverse) := (rfl)
@[simp] theorem sl_lst (lo hi : Option Int) : sl3 (.lst us) lo hi = some (.lst (bx us lo hi)) := (rfl)
@[simp] theorem sl_tup (lo hi : Option Int) : sl3 (.tup us) lo hi = some (.tup (bx us lo hi)) := (rfl)
@[simp] theorem sl_scr (lo hi : Option Int) : sl3 (.scr ns) lo hi = some (.lst ((bx ns lo hi).map U.int)) := (rfl)
@[simp] theorem sl_str (lo hi : Option Int) : sl3 (.str x) lo hi = if x.length ≤ 16777216 then some (.str (cutS x lo hi)) else none := by rw [← aD]; rfl
@[simp] theorem ix_lst' : ix2 (.lst us) (.int i) = atI us i := (rfl)
@[simp] theorem ix_tup' : ix2 (.tup us) (.int i) = atI us i := (rfl)
@[simp] theorem ix_scr' : ix2 (.scr ns) (.int i) = (atI ns i).map U.int := (rfl)
end
theorem ig {A : Type} (l : List A) (n : Nat) : atI l (n : Int) = l[n]? := by
  cases h : l[n]? with
  | some x => exact atI_nat h
  | none =>
    have hl : l.length ≤ n := List.getElem?_eq_none_iff.mp h
    unfold atI ixN
    rw [if_pos (by omega), if_neg (by omega)]
    rfl
@[simp] theorem atI_nat' {A : Type} (l : List A) (n : Nat) : atI l (n : Int) = l[n]? := ig l n
theorem atI_neg {A : Type} (l : List A) (k : Nat) (h : k + 1 ≤ l.length) : atI l (-((k : Int) + 1)) = l[l.length - (k + 1)]? := by
  unfold atI ixN
  rw [if_neg (by omega), if_pos (by omega)]
  show l[_]? = _
  congr 1
  omega
@[simp] theorem atI_neg1 {A : Type} (l : List A) : atI l (-1) = l.getLast? := by
  cases l with
  | nil => rfl
  | cons a l =>
    have := atI_neg (a :: l) 0 (by simp)
    rw [show (-1 : Int) = -(((0 : Nat) : Int) + 1) from rfl, this, List.getLast?_eq_getElem?]
@[simp] theorem cutL_all {A : Type} (l : List A) : bx l none none = l := by
  unfold bx
  rw [HT.sIx_none, HT.sIx_none, List.drop_zero, Nat.sub_zero, List.take_length]
theorem lQ {A : Type} (l : List A) (n : Nat) : bx l none (some (n : Int)) = l.take n := by
  unfold bx
  rw [HT.sIx_none, HT.sIx_nat, List.drop_zero, Nat.sub_zero, List.take_eq_take_iff]
  omega
theorem iJ {A : Type} (l : List A) (n : Nat) : bx l (some (n : Int)) none = l.drop n := by
  unfold bx
  rw [HT.sIx_none, HT.sIx_nat]
  by_cases h : n ≤ l.length
  · rw [Nat.min_eq_left h, List.take_of_length_le (by simp)]
  · rw [Nat.min_eq_right (by omega), Nat.sub_self, List.take_zero, List.drop_eq_nil_of_le (by omega)]
theorem nJ {A : Type} (l : List A) (m n : Nat) : bx l (some (m : Int)) (some (n : Int)) = (l.drop m).take (n - m) := by
  unfold bx
  rw [HT.sIx_nat, HT.sIx_nat]
  by_cases h : m ≤ l.length
  · rw [Nat.min_eq_left h, List.take_eq_take_iff, List.length_drop]
    omega
  · rw [Nat.min_eq_right (a := m) (by omega), List.drop_length, List.take_nil, List.drop_eq_nil_of_le (by omega), List.take_nil]
@[simp] theorem atI_lit {A : Type} (l : List A) (n : Nat) : atI l (no_index (@OfNat.ofNat Int n instOfNat)) = l[@OfNat.ofNat Nat n (instOfNatNat n)]? := ig l n
@[simp] theorem cutL_toL {A : Type} (l : List A) (n : Nat) : bx l none (some (no_index (@OfNat.ofNat Int n instOfNat))) = l.take (@OfNat.ofNat Nat n (instOfNatNat n)) := lQ l n
@[simp] theorem cutL_fromL {A : Type} (l : List A) (n : Nat) : bx l (some (no_index (@OfNat.ofNat Int n instOfNat))) none = l.drop (@OfNat.ofNat Nat n (instOfNatNat n)) := iJ l n
@[simp] theorem cutL_midL {A : Type} (l : List A) (m n : Nat) : bx l (some (no_index (@OfNat.ofNat Int m instOfNat))) (some (no_index (@OfNat.ofNat Int n instOfNat))) = (l.drop (@OfNat.ofNat Nat m (instOfNatNat m))).take (@OfNat.ofNat Nat n (instOfNatNat n) - @OfNat.ofNat Nat m (instOfNatNat m)) := nJ l m n
@[simp] theorem cutL_toN {A : Type} (l : List A) : bx l none (some (-1)) = l.dropLast := by
  have e : HT.sIx l.length l.length (some (-1)) = l.length - 1 := by
    show (if (-1 : Int) < 0 then ((-1 : Int) + (l.length : Int)).toNat else min (-1 : Int).toNat l.length) = _
    rw [if_pos (by decide)]; omega
  unfold bx
  rw [HT.sIx_none, e, List.drop_zero, Nat.sub_zero, List.dropLast_eq_take]
@[simp] theorem cutL_fromN {A : Type} (l : List A) : bx l (some (-1)) none = l.drop (l.length - 1) := by
  have e : HT.sIx l.length 0 (some (-1)) = l.length - 1 := by
    show (if (-1 : Int) < 0 then ((-1 : Int) + (l.length : Int)).toNat else min (-1 : Int).toNat l.length) = _
    rw [if_pos (by decide)]; omega
  unfold bx
  rw [HT.sIx_none, e, List.take_of_length_le (by simp)]
@[simp] theorem cutL_to' {A : Type} (l : List A) (n : Nat) : bx l none (some (n : Int)) = l.take n := lQ l n
@[simp] theorem cutL_from' {A : Type} (l : List A) (n : Nat) : bx l (some (n : Int)) none = l.drop n := iJ l n
@[simp] theorem sJ {A : Type} (l : List A) (m n : Nat) : bx l (some (m : Int)) (some (n : Int)) = (l.drop m).take (n - m) := nJ l m n
@[simp] theorem isi_non_str : aP [.non, .ty "str"] = some (.bl false) := (rfl)
@[simp] theorem isi_non_int : aP [.non, .ty "int"] = some (.bl false) := (rfl)
@[simp] theorem isi_non_bool : aP [.non, .ty "bool"] = some (.bl false) := (rfl)
@[simp] theorem isi_non_tuple : aP [.non, .ty "tuple"] = some (.bl false) := (rfl)
@[simp] theorem isi_non_list : aP [.non, .ty "list"] = some (.bl false) := (rfl)
@[simp] theorem isi_non_dict : aP [.non, .ty "dict"] = some (.bl false) := (rfl)
@[simp] theorem isi_bl_str (b : Bool) : aP [(.bl b), .ty "str"] = some (.bl false) := (rfl)
@[simp] theorem isi_bl_int (b : Bool) : aP [(.bl b), .ty "int"] = some (.bl true) := (rfl)
@[simp] theorem isi_bl_bool (b : Bool) : aP [(.bl b), .ty "bool"] = some (.bl true) := (rfl)
@[simp] theorem isi_bl_tuple (b : Bool) : aP [(.bl b), .ty "tuple"] = some (.bl false) := (rfl)
@[simp] theorem isi_bl_list (b : Bool) : aP [(.bl b), .ty "list"] = some (.bl false) := (rfl)
@[simp] theorem isi_bl_dict (b : Bool) : aP [(.bl b), .ty "dict"] = some (.bl false) := (rfl)
@[simp] theorem isi_int_str (i : Int) : aP [(.int i), .ty "str"] = some (.bl false) := (rfl)
@[simp] theorem isi_int_int (i : Int) : aP [(.int i), .ty "int"] = some (.bl true) := (rfl)
@[simp] theorem isi_int_bool (i : Int) : aP [(.int i), .ty "bool"] = some (.bl false) := (rfl)
@[simp] theorem isi_int_tuple (i : Int) : aP [(.int i), .ty "tuple"] = some (.bl false) := (rfl)
@[simp] theorem isi_int_list (i : Int) : aP [(.int i), .ty "list"] = some (.bl false) := (rfl)
@[simp] theorem isi_int_dict (i : Int) : aP [(.int i), .ty "dict"] = some (.bl false) := (rfl)
@[simp] theorem isi_str_str (x : Str) : aP [(.str x), .ty "str"] = some (.bl true) := (rfl)
@[simp] theorem isi_str_int (x : Str) : aP [(.str x), .ty "int"] = some (.bl false) := (rfl)
@[simp] theorem isi_str_bool (x : Str) : aP [(.str x), .ty "bool"] = some (.bl false) := (rfl)
@[simp] theorem isi_str_tuple (x : Str) : aP [(.str x), .ty "tuple"] = some (.bl false) := (rfl)
@[simp] theorem isi_str_list (x : Str) : aP [(.str x), .ty "list"] = some (.bl false) := (rfl)
@[simp] theorem isi_str_dict (x : Str) : aP [(.str x), .ty "dict"] = some (.bl false) := (rfl)
@[simp] theorem isi_tup_str (us : List U) : aP [(.tup us), .ty "str"] = some (.bl false) := (rfl)
@[simp] theorem isi_tup_int (us : List U) : aP [(.tup us), .ty "int"] = some (.bl false) := (rfl)
@[simp] theorem isi_tup_bool (us : List U) : aP [(.tup us), .ty "bool"] = some (.bl false) := (rfl)
@[simp] theorem isi_tup_tuple (us : List U) : aP [(.tup us), .ty "tuple"] = some (.bl true) := (rfl)
@[simp] theorem isi_tup_list (us : List U) : aP [(.tup us), .ty "list"] = some (.bl false) := (rfl)
@[simp] theorem isi_tup_dict (us : List U) : aP [(.tup us), .ty "dict"] = some (.bl false) := (rfl)
@[simp] theorem isi_lst_str (us : List U) : aP [(.lst us), .ty "str"] = some (.bl false) := (rfl)
@[simp] theorem isi_lst_int (us : List U) : aP [(.lst us), .ty "int"] = some (.bl false) := (rfl)
@[simp] theorem isi_lst_bool (us : List U) : aP [(.lst us), .ty "bool"] = some (.bl false) := (rfl)
@[simp] theorem isi_lst_tuple (us : List U) : aP [(.lst us), .ty "tuple"] = some (.bl false) := (rfl)
@[simp] theorem isi_lst_list (us : List U) : aP [(.lst us), .ty "list"] = some (.bl true) := (rfl)
@[simp] theorem isi_lst_dict (us : List U) : aP [(.lst us), .ty "dict"] = some (.bl false) := (rfl)
@[simp] theorem isi_dct_str (ks us : List U) : aP [(.dct ks us), .ty "str"] = some (.bl false) := (rfl)
@[simp] theorem isi_dct_int (ks us : List U) : aP [(.dct ks us), .ty "int"] = some (.bl false) := (rfl)
@[simp] theorem isi_dct_bool (ks us : List U) : aP [(.dct ks us), .ty "bool"] = some (.bl false) := (rfl)
@[simp] theorem isi_dct_tuple (ks us : List U) : aP [(.dct ks us), .ty "tuple"] = some (.bl false) := (rfl)
@[simp] theorem isi_dct_list (ks us : List U) : aP [(.dct ks us), .ty "list"] = some (.bl false) := (rfl)
@[simp] theorem isi_dct_dict (ks us : List U) : aP [(.dct ks us), .ty "dict"] = some (.bl true) := (rfl)
@[simp] theorem isi_scr_str (ns : List Int) : aP [(.scr ns), .ty "str"] = some (.bl false) := (rfl)
@[simp] theorem isi_scr_int (ns : List Int) : aP [(.scr ns), .ty "int"] = some (.bl false) := (rfl)
@[simp] theorem isi_scr_bool (ns : List Int) : aP [(.scr ns), .ty "bool"] = some (.bl false) := (rfl)
@[simp] theorem isi_scr_tuple (ns : List Int) : aP [(.scr ns), .ty "tuple"] = some (.bl false) := (rfl)
@[simp] theorem isi_scr_list (ns : List Int) : aP [(.scr ns), .ty "list"] = some (.bl true) := (rfl)
@[simp] theorem isi_scr_dict (ns : List Int) : aP [(.scr ns), .ty "dict"] = some (.bl false) := (rfl)
@[simp] theorem is_non_non : is2 .non .non = some (.bl true) := (rfl)
@[simp] theorem isnot_non_non : dF .non .non = some (.bl false) := (rfl)
@[simp] theorem is_bl_non (b : Bool) : is2 (.bl b) .non = some (.bl false) := (rfl)
@[simp] theorem isnot_bl_non (b : Bool) : dF (.bl b) .non = some (.bl true) := (rfl)
@[simp] theorem is_int_non (i : Int) : is2 (.int i) .non = some (.bl false) := (rfl)
@[simp] theorem isnot_int_non (i : Int) : dF (.int i) .non = some (.bl true) := (rfl)
@[simp] theorem is_str_non (x : Str) : is2 (.str x) .non = some (.bl false) := (rfl)
@[simp] theorem isnot_str_non (x : Str) : dF (.str x) .non = some (.bl true) := (rfl)
@[simp] theorem is_tup_non (us : List U) : is2 (.tup us) .non = some (.bl false) := (rfl)
@[simp] theorem isnot_tup_non (us : List U) : dF (.tup us) .non = some (.bl true) := (rfl)
@[simp] theorem is_lst_non (us : List U) : is2 (.lst us) .non = some (.bl false) := (rfl)
@[simp] theorem isnot_lst_non (us : List U) : dF (.lst us) .non = some (.bl true) := (rfl)
@[simp] theorem is_dct_non (ks us : List U) : is2 (.dct ks us) .non = some (.bl false) := (rfl)
@[simp] theorem isnot_dct_non (ks us : List U) : dF (.dct ks us) .non = some (.bl true) := (rfl)
@[simp] theorem is_scr_non (ns : List Int) : is2 (.scr ns) .non = none := (rfl)
@[simp] theorem isnot_scr_non (ns : List Int) : dF (.scr ns) .non = none := (rfl)
@[simp] theorem is_bl_bl (a b : Bool) : is2 (.bl a) (.bl b) = some (.bl (decide (a = b))) := (rfl)
@[simp] theorem isnot_bl_bl (a b : Bool) : dF (.bl a) (.bl b) = some (.bl (!decide (a = b))) := (rfl)
end D
namespace C
open PySem L2 D
noncomputable abbrev tS (ws : List Str) : U := .tup (ws.map U.str)
noncomputable abbrev lS (ws : List Str) : U := .lst (ws.map U.str)
@[simp] theorem ofS_inj (a b : String) : (Str.ofString a = Str.ofString b) ↔ a = b := by
  refine ⟨fun h => ?_, fun h => by rw [h]⟩
  have h1 : cpsOfBytes 0 0 a.toByteArray.data.toList = cpsOfBytes 0 0 b.toByteArray.data.toList := by
    have := congrArg (fun x : Str => x.cps.toList) h
    simpa [Str.ofString] using this
  rw [cpsOfBytes_string, cpsOfBytes_string] at h1
  have h2 : a.toList = b.toList := by
    have inj : ∀ l m : List Char, l.map Char.toNat = m.map Char.toNat → l = m := by
      intro l
      induction l with
      | nil => intro m h; cases m with
        | nil => rfl
        | cons _ _ => cases h
      | cons c l ih => intro m h; cases m with
        | nil => cases h
        | cons d m =>
          simp only [List.map_cons, List.cons.injEq] at h
          rw [ih m h.2, Char.ext (UInt32.toNat_inj.mp h.1)]
    exact inj _ _ h1
  rw [← String.ofList_toList (s := a), h2, String.ofList_toList]
theorem vC (x y : Str) : eqU (.str y) (.str x) = decide (y = x) := eqU_str y x
theorem lY (x : Str) : ∀ ws : List Str, ((ws.map U.str).any fun y => eqU y (.str x)) = decide (x ∈ ws)
  | [] => rfl
  | w :: ws => by
    rw [List.map_cons, List.any_cons, lY x ws, vC]
    rw [Bool.eq_iff_iff, Bool.or_eq_true, decide_eq_true_eq, decide_eq_true_eq, decide_eq_true_eq, List.mem_cons]
    exact or_congr eq_comm Iff.rfl
theorem jG : ∀ ws : List Str, (ws.map U.str).all aY = true
  | [] => rfl
  | w :: ws => by rw [List.map_cons, List.all_cons, jG ws]; rfl
@[simp] theorem in_txt (x : Str) (ws : List Str) : in2 (.str x) (tS ws) = some (.bl (decide (x ∈ ws))) := by
  show (if aY (.str x) && (ws.map U.str).all aY then some (U.bl ((ws.map U.str).any fun y => eqU y (.str x))) else none) = _
  rw [jG, lY]; rfl
@[simp] theorem nin_txt (x : Str) (ws : List Str) : uM (.str x) (tS ws) = some (.bl (!decide (x ∈ ws))) := by
  show (if aY (.str x) && (ws.map U.str).all aY then some (U.bl (!(ws.map U.str).any fun y => eqU y (.str x))) else none) = _
  rw [jG, lY]; rfl
theorem qH {T : Type} [DecidableEq T] {f : T → U} {g : U → U → Option Bool} (h : ∀ a b : T, g (f a) (f b) = some (decide (a = b))) : ∀ as bs : List T, ∃ c, eqZ g (as.map f) (bs.map f) = some c ∧ (c && decide (as.length = bs.length)) = decide (as = bs)
  | [], [] => ⟨true, rfl, by simp⟩
  | [], _ :: _ => ⟨true, rfl, by simp⟩
  | _ :: _, [] => ⟨true, rfl, by simp⟩
  | a :: as, b :: bs => by
    obtain ⟨c, h1, h2⟩ := qH h as bs
    refine ⟨decide (a = b) && c, by simp only [List.map_cons, eqZ, h, h1], ?_⟩
    have h3 : decide (a :: as = b :: bs) = (decide (a = b) && decide (as = bs)) := by
      by_cases q : a = b <;> by_cases z : as = bs <;> simp [q, z]
    rw [h3, ← h2]
    by_cases q : as.length = bs.length <;> simp [q]
theorem eqF_tup {T : Type} [DecidableEq T] {f : T → U} {n : Nat} (h : ∀ a b : T, eqF n (f a) (f b) = some (decide (a = b))) (as bs : List T) : eqF (n + 1) (.tup (as.map f)) (.tup (bs.map f)) = some (decide (as = bs)) := by
  obtain ⟨c, h1, h2⟩ := qH h as bs
  simp only [eqF, h1, Option.map_some, List.length_map, h2]
theorem lL (n : Nat) (a b : Str) : eqF (n + 1) (.str a) (.str b) = some (decide (a = b)) := by
  show some (a == b) = _
  by_cases q : a = b <;> simp [q]
theorem qI (n : Nat) (a b : Int) : eqF (n + 1) (.int a) (.int b) = some (decide (a = b)) := by
  show some (a == b) = _
  by_cases q : a = b <;> simp [q]
theorem eqF_txt (n : Nat) (as bs : List Str) : eqF (n + 2) (tS as) (tS bs) = some (decide (as = bs)) := eqF_tup (lL n) as bs
@[simp] theorem eq_str (a b : Str) : eq2 (.str a) (.str b) = some (.bl (decide (a = b))) := by unfold eq2; rw [lL 59]; rfl
@[simp] theorem ne_str (a b : Str) : ne2 (.str a) (.str b) = some (.bl (!decide (a = b))) := by unfold ne2; rw [lL 59]; rfl
@[simp] theorem eq_int (a b : Int) : eq2 (.int a) (.int b) = some (.bl (decide (a = b))) := by unfold eq2; rw [qI 59]; rfl
@[simp] theorem ne_int (a b : Int) : ne2 (.int a) (.int b) = some (.bl (!decide (a = b))) := by unfold ne2; rw [qI 59]; rfl
@[simp] theorem eq_bl (a b : Bool) : eq2 (.bl a) (.bl b) = some (.bl (decide (a = b))) := by cases a <;> cases b <;> rfl
@[simp] theorem ne_bl (a b : Bool) : ne2 (.bl a) (.bl b) = some (.bl (!decide (a = b))) := by cases a <;> cases b <;> rfl
theorem ne_txt (as bs : List Str) : ne2 (tS as) (tS bs) = some (.bl (!decide (as = bs))) := by unfold ne2; rw [eqF_txt 58]; rfl
theorem qG (f : U → U → Option Bool) (us : List U) : eqZ f us [] = some true := by cases us <;> rfl
@[simp] theorem eq_nilT (us : List U) : eq2 (.tup us) (.tup []) = some (.bl us.isEmpty) := by
  unfold eq2 eqF
  rw [qG]
  cases us <;> rfl
@[simp] theorem ne_nilT (us : List U) : ne2 (.tup us) (.tup []) = some (.bl (!us.isEmpty)) := by
  unfold ne2 eqF
  rw [qG]
  cases us <;> rfl
@[simp] theorem eq_nilL (us : List U) : eq2 (.lst us) (.lst []) = some (.bl us.isEmpty) := by
  cases us <;> rfl
@[simp] theorem ne_nilL (us : List U) : ne2 (.lst us) (.lst []) = some (.bl (!us.isEmpty)) := by
  cases us <;> rfl
theorem cut_map {A B : Type} (f : A → B) (l : List A) (lo hi : Option Int) : bx (l.map f) lo hi = (bx l lo hi).map f := by
  unfold bx
  rw [List.length_map, List.map_take, List.map_drop]
theorem sl_txt (ws : List Str) (lo hi : Option Int) : sl3 (tS ws) lo hi = some (tS (bx ws lo hi)) := by
  show some (U.tup (bx (ws.map U.str) lo hi)) = _
  rw [cut_map]
noncomputable def jf (a b : List Str) : List Str := a.filter fun x => decide (x ∈ b)
noncomputable def u6 (a b : List Str) : List Str := bT (dedS (a ++ b))
noncomputable def uI : U → Bool
  | .int i => decide (-1000000000000000000 ≤ i ∧ i ≤ 1000000000000000000)
  | _ => false
noncomputable def overU : U → Bool
  | .int i => decide (0 < i)
  | _ => false
noncomputable def argsU : U → Bool
  | .tup us => decide (us.length ≤ 4) && us.all l_
  | _ => false
noncomputable abbrev bA : Str := Str.ofString "word"
noncomputable abbrev pJ : Str := Str.ofString "number"
noncomputable abbrev pK : Str := Str.ofString "args"
noncomputable abbrev kW : Str := Str.ofString "leaves"
noncomputable def partU (s : Str) (u : U) : Bool := if s = bA then l_ u else if s = pJ then uI u else if s = pK then argsU u else if s = kW then areL u else overU u
noncomputable def tabS : List (Str × List Str) := [(Str.ofString "set", [bA, pJ]), (Str.ofString "same", [bA, bA]), (Str.ofString "sum", [bA, bA, bA]), (Str.ofString "less", [bA, bA, bA]), (Str.ofString "hold", [bA, bA, pK]), (Str.ofString "call", [bA, bA, pK, kW]),
  (Str.ofString "last", [bA, pK, kW]), (Str.ofString "give", [bA]), (Str.ofString "keep", [bA, bA]), (Str.ofString "kept", [bA, bA]), (Str.ofString "skip", [bA, Str.ofString "over"]), (Str.ofString "over", [Str.ofString "over"]), (Str.ofString "on", []), (Str.ofString "count", []),
  (Str.ofString "ask", [bA, Str.ofString "over"]), (Str.ofString "deed", [bA, bA]), (Str.ofString "done", [bA, bA])]
noncomputable def lookS (w : Str) : Option (List Str) := (tabS.find? fun p => decide (p.1 = w)).map (·.2)
noncomputable def rowU : U → Bool
  | .tup (.str w :: ps) => match lookS w with
    | some ss => decide (ps.length = ss.length) && (List.zipWith partU ss ps).all id
    | none => false
  | _ => false
theorem pick {A : Type} (l : List A) (i : Int) (h0 : 0 ≤ i) (h1 : i < l.length) : ∃ x ∈ l, atI l i = some x := by
  obtain ⟨n, rfl⟩ := Int.eq_ofNat_of_zero_le h0
  have hn : n < l.length := by omega
  exact ⟨l[n], List.getElem_mem hn, by rw [ig]; exact List.getElem?_eq_getElem hn⟩
inductive Row where
  | set (x : Str) (n : Int) | same (x a : Str) | sum (x a b : Str) | less (x a b : Str) | hold (x n : Str) (as : List Str) | call (x f : Str) (as vs : List Str) | last (f : Str) (as vs : List Str) | give (a : Str)
  | keep (c a : Str) | kept (x c : Str) | skip (a : Str) (k : Int) | over (k : Int) | on | count | ask (w : Str) (k : Int) | deed (w a : Str) | done (w a : Str)
  deriving DecidableEq
noncomputable def Row.u : Row → U
  | .set x n => .tup [.str (Str.ofString "set"), .str x, .int n]
  | .same x a => .tup [.str (Str.ofString "same"), .str x, .str a]
  | .sum x a b => .tup [.str (Str.ofString "sum"), .str x, .str a, .str b]
  | .less x a b => .tup [.str (Str.ofString "less"), .str x, .str a, .str b]
  | .hold x n as => .tup [.str (Str.ofString "hold"), .str x, .str n, tS as]
  | .call x f as vs => .tup [.str (Str.ofString "call"), .str x, .str f, tS as, tS vs]
  | .last f as vs => .tup [.str (Str.ofString "last"), .str f, tS as, tS vs]
  | .give a => .tup [.str (Str.ofString "give"), .str a]
  | .keep c a => .tup [.str (Str.ofString "keep"), .str c, .str a]
  | .kept x c => .tup [.str (Str.ofString "kept"), .str x, .str c]
  | .skip a k => .tup [.str (Str.ofString "skip"), .str a, .int k]
  | .over k => .tup [.str (Str.ofString "over"), .int k]
  | .on => .tup [.str (Str.ofString "on")]
  | .count => .tup [.str (Str.ofString "count")]
  | .ask w k => .tup [.str (Str.ofString "ask"), .str w, .int k]
  | .deed w a => .tup [.str (Str.ofString "deed"), .str w, .str a]
  | .done w a => .tup [.str (Str.ofString "done"), .str w, .str a]
noncomputable def okN (n : Int) : Bool := decide (-1000000000000000000 ≤ n ∧ n ≤ 1000000000000000000)
noncomputable def vR (as : List Str) : Bool := decide (as.length ≤ 4) && as.all aC
noncomputable def qm (ws : List Str) : Bool := areL (tS ws)
noncomputable def Row.ok : Row → Bool
  | .set x n => aC x && okN n
  | .same x a => aC x && aC a
  | .sum x a b => aC x && aC a && aC b
  | .less x a b => aC x && aC a && aC b
  | .hold x n as => aC x && aC n && vR as
  | .call x f as vs => aC x && aC f && vR as && qm vs
  | .last f as vs => aC f && vR as && qm vs
  | .give a => aC a
  | .keep c a => aC c && aC a
  | .kept x c => aC x && aC c
  | .skip a k => aC a && decide (0 < k)
  | .over k => decide (0 < k)
  | .on => true
  | .count => true
  | .ask w k => aC w && decide (0 < k)
  | .deed w a => aC w && aC a
  | .done w a => aC w && aC a
noncomputable def Row.goes : Row → Int
  | .skip _ k => k
  | .over k => k
  | .ask _ k => k
  | _ => 0
noncomputable def Row.leaves : Row → List Str
  | .call _ _ _ vs => vs
  | .last _ _ vs => vs
  | .ask w _ => [w]
  | .deed w _ => [w]
  | .done w _ => [w]
  | _ => []
noncomputable def goesU (u : U) : Int := open Classical in if h : ∃ r : Row, u = r.u then (Classical.choose h).goes else 0
noncomputable def stands (us : List U) (k : Nat) : Bool := rowU (us.getD k .non) && decide ((k : Int) + 1 + goesU (us.getD k .non) ≤ us.length)
noncomputable def badAt (us : List U) : Option Nat := (List.range us.length).find? fun k => !stands us k
noncomputable def nodupU : U → Bool
  | .tup us => match bB us with
    | some ws => decide ((dedS ws).length = ws.length)
    | none => false
  | _ => false
noncomputable def rowsU : U → Bool
  | .tup us => decide (1 ≤ us.length ∧ us.length ≤ 60)
  | _ => false
noncomputable def headU : U → Bool
  | .tup [n, o, p, r] => l_ n && areL o && argsU p && nodupU p && rowsU r
  | _ => false
structure Piece where
  name : Str
  own : List Str
  params : List Str
  rows : List Row
noncomputable def Piece.u (p : Piece) : U := .tup [.str p.name, tS p.own, tS p.params, .tup (p.rows.map Row.u)]
noncomputable def nQ (b : List Piece) : U := .lst (b.map Piece.u)
noncomputable def Stop : Out → Prop
  | .rt _ _ => True
  | .ex _ _ _ _ => True
  | .bad => True
  | _ => False
theorem Stop.seq {o : Out} (h : Stop o) (k : D.Env → Store → Out) : o.seq k = o := by
  cases o <;> first | rfl | exact h.elim
noncomputable def nameU : U → Str
  | .tup (.str n :: _) => n
  | _ => Str.empty
noncomputable def fresh (us : List U) (k : Nat) : Bool := !decide (nameU (us.getD k .non) ∈ (us.take k).map nameU)
noncomputable def Piece.ok (p : Piece) : Bool := headU p.u && (badAt (p.rows.map Row.u)).isNone
noncomputable abbrev wFun : Str := Str.ofString "fun"
noncomputable def valU : Nat → U → Bool
  | 0, u => uI u
  | n + 1, u => uI u || match u with
    | .tup [.str f, nm, .tup ps] => decide (f = wFun) && l_ nm && decide (ps.length ≤ 4) && ps.all (valU n)
    | _ => false
noncomputable def vL : Nat → U → Int
  | n + 1, .tup [_, _, .tup ps] => 1 + maxI 0 (ps.map (vL n))
  | _, _ => 0
end C
namespace D
open PySem
noncomputable def nmL : List Str := [Str.ofString "Frame", Str.ofString "Hand", Str.ofString "Melt", Str.ofString "Walk", Str.ofString "Run", Str.ofString "pieces", Str.ofString "base", Str.ofString "left", Str.ofString "shelf", Str.ofString "told_events", Str.ofString "ended", Str.ofString "frames", Str.ofString "deepest", Str.ofString "papers", Str.ofString "needs_now", Str.ofString "stops_now", Str.ofString "piece", Str.ofString "locals_now", Str.ofString "at", Str.ofString "waits", Str.ofString "vouch", Str.ofString "set_now", Str.ofString "top", Str.ofString "enter", Str.ofString "place", Str.ofString "stop", Str.ofString "go_on", Str.ofString "done", Str.ofString "asked", Str.ofString "ends_with", Str.ofString "use_call", Str.ofString "why_not", Str.ofString "call", Str.ofString "ask", Str.ofString "row_done", Str.ofString "go", Str.ofString "give", Str.ofString "value", Str.ofString "paper_of", Str.ofString "set", Str.ofString "same", Str.ofString "sum", Str.ofString "less", Str.ofString "hold", Str.ofString "last", Str.ofString "keep", Str.ofString "kept", Str.ofString "skip", Str.ofString "over", Str.ofString "on", Str.ofString "count", Str.ofString "deed", Str.ofString "gives", Str.ofString "spent", Str.ofString "stuck", Str.ofString "refused", Str.ofString "number", Str.ofString "nobody", Str.ofString "many", Str.ofString "function", Str.ofString "great", Str.ofString "deep", Str.ofString "held", Str.ofString "lacks", Str.ofString "fun", Str.ofString "me", Str.ofString "other", Str.ofString "x", Str.ofString "f", Str.ofString "yy", Str.ofString "a", Str.ofString "abcdefgh", Str.ofString "c", Str.ofString "kk", Str.ofString "none", Str.ofString "w"]
theorem nmN : nmL.Nodup := by decide +kernel
class Lx (a : String) (i : outParam Nat) : Prop where
  h : nmL[i]? = some (Str.ofString a)
instance : Lx "Frame" 0 := ⟨rfl⟩
instance : Lx "Hand" 1 := ⟨rfl⟩
instance : Lx "Melt" 2 := ⟨rfl⟩
instance : Lx "Walk" 3 := ⟨rfl⟩
instance : Lx "Run" 4 := ⟨rfl⟩
instance : Lx "pieces" 5 := ⟨rfl⟩
instance : Lx "base" 6 := ⟨rfl⟩
instance : Lx "left" 7 := ⟨rfl⟩
instance : Lx "shelf" 8 := ⟨rfl⟩
instance : Lx "told_events" 9 := ⟨rfl⟩
instance : Lx "ended" 10 := ⟨rfl⟩
instance : Lx "frames" 11 := ⟨rfl⟩
instance : Lx "deepest" 12 := ⟨rfl⟩
instance : Lx "papers" 13 := ⟨rfl⟩
instance : Lx "needs_now" 14 := ⟨rfl⟩
instance : Lx "stops_now" 15 := ⟨rfl⟩
instance : Lx "piece" 16 := ⟨rfl⟩
instance : Lx "locals_now" 17 := ⟨rfl⟩
instance : Lx "at" 18 := ⟨rfl⟩
instance : Lx "waits" 19 := ⟨rfl⟩
instance : Lx "vouch" 20 := ⟨rfl⟩
instance : Lx "set_now" 21 := ⟨rfl⟩
instance : Lx "top" 22 := ⟨rfl⟩
instance : Lx "enter" 23 := ⟨rfl⟩
instance : Lx "place" 24 := ⟨rfl⟩
instance : Lx "stop" 25 := ⟨rfl⟩
instance : Lx "go_on" 26 := ⟨rfl⟩
instance : Lx "done" 27 := ⟨rfl⟩
instance : Lx "asked" 28 := ⟨rfl⟩
instance : Lx "ends_with" 29 := ⟨rfl⟩
instance : Lx "use_call" 30 := ⟨rfl⟩
instance : Lx "why_not" 31 := ⟨rfl⟩
instance : Lx "call" 32 := ⟨rfl⟩
instance : Lx "ask" 33 := ⟨rfl⟩
instance : Lx "row_done" 34 := ⟨rfl⟩
instance : Lx "go" 35 := ⟨rfl⟩
instance : Lx "give" 36 := ⟨rfl⟩
instance : Lx "value" 37 := ⟨rfl⟩
instance : Lx "paper_of" 38 := ⟨rfl⟩
instance : Lx "set" 39 := ⟨rfl⟩
instance : Lx "same" 40 := ⟨rfl⟩
instance : Lx "sum" 41 := ⟨rfl⟩
instance : Lx "less" 42 := ⟨rfl⟩
instance : Lx "hold" 43 := ⟨rfl⟩
instance : Lx "last" 44 := ⟨rfl⟩
instance : Lx "keep" 45 := ⟨rfl⟩
instance : Lx "kept" 46 := ⟨rfl⟩
instance : Lx "skip" 47 := ⟨rfl⟩
instance : Lx "over" 48 := ⟨rfl⟩
instance : Lx "on" 49 := ⟨rfl⟩
instance : Lx "count" 50 := ⟨rfl⟩
instance : Lx "deed" 51 := ⟨rfl⟩
instance : Lx "gives" 52 := ⟨rfl⟩
instance : Lx "spent" 53 := ⟨rfl⟩
instance : Lx "stuck" 54 := ⟨rfl⟩
instance : Lx "refused" 55 := ⟨rfl⟩
instance : Lx "number" 56 := ⟨rfl⟩
instance : Lx "nobody" 57 := ⟨rfl⟩
instance : Lx "many" 58 := ⟨rfl⟩
instance : Lx "function" 59 := ⟨rfl⟩
instance : Lx "great" 60 := ⟨rfl⟩
instance : Lx "deep" 61 := ⟨rfl⟩
instance : Lx "held" 62 := ⟨rfl⟩
instance : Lx "lacks" 63 := ⟨rfl⟩
instance : Lx "fun" 64 := ⟨rfl⟩
instance : Lx "me" 65 := ⟨rfl⟩
instance : Lx "other" 66 := ⟨rfl⟩
instance : Lx "x" 67 := ⟨rfl⟩
instance : Lx "f" 68 := ⟨rfl⟩
instance : Lx "yy" 69 := ⟨rfl⟩
instance : Lx "a" 70 := ⟨rfl⟩
instance : Lx "abcdefgh" 71 := ⟨rfl⟩
instance : Lx "c" 72 := ⟨rfl⟩
instance : Lx "kk" 73 := ⟨rfl⟩
instance : Lx "none" 74 := ⟨rfl⟩
instance : Lx "w" 75 := ⟨rfl⟩
theorem bU {a b : String} {i j : Nat} [x : Lx a i] [y : Lx b j] : (Str.ofString a = Str.ofString b) = (i = j) := by
  refine propext ⟨fun h => ?_, fun h => ?_⟩
  · have e1 := x.h
    have e2 := y.h
    rw [← h] at e2
    obtain ⟨l1, g1⟩ := List.getElem?_eq_some_iff.mp e1
    obtain ⟨l2, g2⟩ := List.getElem?_eq_some_iff.mp e2
    rcases Nat.lt_trichotomy i j with q | q | q
    · exact absurd (g1.trans g2.symm) (List.pairwise_iff_getElem.mp nmN i j l1 l2 q)
    · exact q
    · exact absurd (g2.trans g1.symm) (List.pairwise_iff_getElem.mp nmN j i l2 l1 q)
  · subst h
    have e1 := x.h
    rw [y.h] at e1
    exact (Option.some.inj e1).symm
theorem ak {a b : String} {i j : Nat} [x : Lx a i] [y : Lx b j] : (Str.ofString a == Str.ofString b) = (i == j) := by
  have h : (Str.ofString a = Str.ofString b) = (i = j) := bU
  by_cases q : i = j
  · rw [beq_iff_eq.mpr (h.mpr q), beq_iff_eq.mpr q]
  · rw [beq_eq_false_iff_ne.mpr fun z => q (h.mp z), beq_eq_false_iff_ne.mpr q]
end D
namespace R
open PySem L2 D C
noncomputable def kv (l : List (Str × U)) : List (Key × U) := l.map fun p => (.inr p.1, p.2)
noncomputable def getA (l : List (Str × U)) (x : Str) : Option U := (l.find? fun p => decide (p.1 = x)).map (·.2)
noncomputable def ug (l : List (Str × U)) (x : Str) (v : U) : List (Str × U) := if (l.any fun p => decide (p.1 = x)) = true then l.map (fun p => if p.1 = x then (p.1, v) else p) else l ++ [(x, v)]
inductive Way where | hand | melt | walk
  deriving DecidableEq
noncomputable def Way.cls : Way → Str
  | .hand => Str.ofString "Hand" | .melt => Str.ofString "Melt" | .walk => Str.ofString "Walk"
structure Fm where
  pc : Piece
  loc : List (Str × U)
  pos : Nat
  waits : Option Str
  vouch : List Str
  now : List Str
structure Rn where
  bk : List Piece
  base : List Str
  left : Nat
  shelf : List (Str × U)
  evs : List U
  ended : Option U
  frames : List Fm
  deepest : Nat
  papers : List U
  needs : List (List Str)
  stops : List (List Str)
structure Ly where
  m : Nat
  sh : Nat
  ev : Nat
  fl : Nat
  p : Nat
  q : Nat
  fs : List (Nat × Nat)
noncomputable def oS : Option Str → U
  | none => .non
  | some x => .str x
noncomputable def oU : Option U → U
  | none => .non
  | some x => x
noncomputable def aN (f : Fm) (b : Nat) : List (Str × U) := [(Str.ofString "piece", f.pc.u), (Str.ofString "locals_now", .ref b), (Str.ofString "at", .int f.pos), (Str.ofString "waits", oS f.waits), (Str.ofString "vouch", tS f.vouch), (Str.ofString "set_now", tS f.now)]
noncomputable def core (L : Ly) (S : Rn) : List (Str × U) := [(Str.ofString "pieces", nQ S.bk), (Str.ofString "base", tS S.base), (Str.ofString "left", .int S.left), (Str.ofString "shelf", .ref L.sh), (Str.ofString "told_events", .ref L.ev), (Str.ofString "ended", oU S.ended), (Str.ofString "frames", .ref L.fl), (Str.ofString "deepest", .int S.deepest)]
noncomputable def aj (w : Way) (L : Ly) (S : Rn) : List (Str × U) := match w with
  | .hand => core L S
  | .walk => (Str.ofString "papers", .ref L.p) :: core L S
  | .melt => (Str.ofString "needs_now", .ref L.p) :: (Str.ofString "stops_now", .ref L.q) :: core L S
noncomputable def flat : List (Nat × Nat) → List Nat
  | [] => []
  | (a, b) :: r => a :: b :: flat r
noncomputable def xs (w : Way) (L : Ly) : List Nat := match w with
  | .hand => []
  | .walk => [L.p]
  | .melt => [L.p, L.q]
noncomputable def adr (w : Way) (L : Ly) : List Nat := L.m :: L.sh :: L.ev :: L.fl :: (xs w L ++ flat L.fs)
noncomputable def cJ (st : Store) : List (Nat × Nat) → List Fm → Prop
  | [], [] => True
  | (a, b) :: r, f :: fs => st[a]? = some (.obj (Str.ofString "Frame") (aN f b)) ∧ st[b]? = some (d_ (kv f.loc)) ∧ cJ st r fs
  | _, _ => False
noncomputable def iU (w : Way) (st : Store) (L : Ly) (S : Rn) : Prop := match w with
  | .hand => True
  | .walk => st[L.p]? = some (.lst S.papers)
  | .melt => st[L.p]? = some (.lst (S.needs.reverse.map tS)) ∧ st[L.q]? = some (.lst (S.stops.reverse.map tS))
structure Rep (w : Way) (s0 : Store) (L : Ly) (st : Store) (S : Rn) : Prop where
  ob : st[L.m]? = some (.obj w.cls (aj w L S))
  sh : st[L.sh]? = some (d_ (kv S.shelf))
  ev : st[L.ev]? = some (.lst S.evs)
  fl : st[L.fl]? = some (.lst (L.fs.map fun p => U.ref p.1).reverse)
  xp : iU w st L S
  fr : cJ st L.fs S.frames
  nd : (adr w L).Nodup
  lo : ∀ i ∈ adr w L, s0.length ≤ i ∧ i < st.length
  pre : ∀ i, i < s0.length → st[i]? = s0[i]?
theorem cJ.eq {st st' : Store} : ∀ {fs : List (Nat × Nat)} {frs : List Fm}, cJ st fs frs → (∀ i ∈ flat fs, st'[i]? = st[i]?) → cJ st' fs frs
  | [], [], _, _ => trivial
  | (a, b) :: r, f :: fs, ⟨h1, h2, h3⟩, h => ⟨by rw [h a (by simp [flat]), h1], by rw [h b (by simp [flat]), h2], h3.eq fun i hi => h i (by simp [flat, hi])⟩
  | [], _ :: _, h, _ => h.elim
  | _ :: _, [], h, _ => h.elim
theorem dI {st : Store} {i j : Nat} {x : Ob} (h : j ≠ i) : (st.set i x)[j]? = st[j]? := by
  rw [List.getElem?_set]; simp [Ne.symm h]
theorem tY {st : Store} {i : Nat} {x y : Ob} (h : st[i]? = some y) : (st.set i x)[i]? = some x := by
  obtain ⟨hl, _⟩ := List.getElem?_eq_some_iff.mp h
  rw [List.getElem?_set]; simp [hl]
theorem iT {st t : Store} {i : Nat} (h : i < st.length) : (st ++ t)[i]? = st[i]? := List.getElem?_append_left h
theorem Rep.upd {w : Way} {s0 st : Store} {L : Ly} {S S' : Rn} (h : Rep w s0 L st S) {i : Nat} {x : Ob} (hi : i ∈ adr w L)
    (ob : (st.set i x)[L.m]? = some (.obj w.cls (aj w L S'))) (sh : (st.set i x)[L.sh]? = some (d_ (kv S'.shelf))) (ev : (st.set i x)[L.ev]? = some (.lst S'.evs))
    (fl : (st.set i x)[L.fl]? = some (.lst (L.fs.map fun p => U.ref p.1).reverse)) (xp : iU w (st.set i x) L S') (fr : cJ (st.set i x) L.fs S'.frames) : Rep w s0 L (st.set i x) S' where
  ob := ob
  sh := sh
  ev := ev
  fl := fl
  xp := xp
  fr := fr
  nd := h.nd
  lo := fun j hj => by rw [List.length_set]; exact h.lo j hj
  pre := fun j hj => by rw [dI (fun e => by have := (h.lo i hi).1; omega)]; exact h.pre j hj
theorem Rep.dis {w : Way} {s0 st : Store} {L : Ly} {S : Rn} (h : Rep w s0 L st S) : L.m ≠ L.sh ∧ L.m ≠ L.ev ∧ L.m ≠ L.fl ∧ L.sh ≠ L.ev ∧ L.sh ≠ L.fl ∧ L.ev ≠ L.fl ∧ (∀ i ∈ xs w L ++ flat L.fs, L.m ≠ i ∧ L.sh ≠ i ∧ L.ev ≠ i ∧ L.fl ≠ i) ∧ (xs w L).Nodup ∧ (flat L.fs).Nodup ∧ ∀ i ∈ xs w L, ∀ j ∈ flat L.fs, i ≠ j := by
  have n := h.nd
  unfold adr at n
  simp only [List.nodup_cons, List.mem_cons, not_or] at n
  obtain ⟨⟨a1, a2, a3, a4⟩, ⟨b1, b2, b3⟩, ⟨c1, c2⟩, d1, d2⟩ := n
  rw [List.nodup_append] at d2
  refine ⟨a1, a2, a3, b1, b2, c1, fun i hi => ⟨?_, ?_, ?_, ?_⟩, d2.1, d2.2.1, d2.2.2⟩
  · exact fun e => a4 (e ▸ hi)
  · exact fun e => b3 (e ▸ hi)
  · exact fun e => c2 (e ▸ hi)
  · exact fun e => d1 (e ▸ hi)
theorem iU.eq {w : Way} {st st' : Store} {L : Ly} {S S' : Rn} (h : iU w st L S) (e : ∀ i ∈ xs w L, st'[i]? = st[i]?) (e1 : S'.papers = S.papers) (e2 : S'.needs = S.needs) (e3 : S'.stops = S.stops) : iU w st' L S' := by
  cases w
  · trivial
  · unfold iU at h ⊢
    simp only [e2, e3]
    rw [e L.p (by simp [xs]), e L.q (by simp [xs])]
    exact h
  · unfold iU at h ⊢
    simp only [e1]
    rw [e L.p (by simp [xs])]
    exact h
section
variable {w : Way} {s0 st : Store} {L : Ly} {S : Rn}
theorem Rep.push (h : Rep w s0 L st S) (f : Fm) :
    Rep w s0 {L with fs := (st.length, st.length + 1) :: L.fs} ((st ++ [.obj (Str.ofString "Frame") (aN f (st.length + 1)), d_ (kv f.loc)]).set L.fl (.lst ((L.fs.map fun p => U.ref p.1).reverse ++ [.ref st.length]))) {S with frames := f :: S.frames} := by
  obtain ⟨d1, d2, d3, d4, d5, d6, dx, -, dn, dy⟩ := h.dis
  have hx : xs w {L with fs := (st.length, st.length + 1) :: L.fs} = xs w L := by cases w <;> rfl
  have lt : ∀ i ∈ adr w L, i < st.length := fun i hi => (h.lo i hi).2
  have lfl : L.fl < st.length := lt _ (by simp [adr])
  have g : ∀ i ∈ adr w L, i ≠ L.fl → ((st ++ [.obj (Str.ofString "Frame") (aN f (st.length + 1)), d_ (kv f.loc)]).set L.fl (.lst ((L.fs.map fun p => U.ref p.1).reverse ++ [.ref st.length])))[i]? = st[i]? := fun i hi q => by
    rw [dI q, iT (lt i hi)]
  have mem : ∀ i, i ∈ xs w L ++ flat L.fs → i ∈ adr w L := fun i hi => by simp only [adr, List.mem_cons]; exact .inr (.inr (.inr (.inr hi)))
  exact {
    ob := by rw [g _ (by simp [adr]) d3, h.ob]; cases w <;> rfl
    sh := by rw [g _ (by simp [adr]) d5, h.sh]
    ev := by rw [g _ (by simp [adr]) d6, h.ev]
    fl := by
      rw [tY (y := .lst (L.fs.map fun p => U.ref p.1).reverse) (by rw [iT lfl, h.fl])]
      simp
    xp := by
      have := h.xp.eq (S' := S) (fun i hi => g i (mem i (by simp [hi])) (Ne.symm (dx i (by simp [hi])).2.2.2)) rfl rfl rfl
      cases w
      · trivial
      · exact this
      · exact this
    fr := by
      refine ⟨?_, ?_, h.fr.eq fun i hi => g i (mem i (by simp [hi])) (Ne.symm (dx i (by simp [hi])).2.2.2)⟩
      · rw [dI (by omega)]; simp
      · rw [dI (by omega)]; simp
    nd := by
      have n := h.nd
      have l := lt
      have y : ∀ i ∈ adr w L, i ≠ st.length ∧ i ≠ st.length + 1 := fun i hi => by have := lt i hi; omega
      unfold adr at n y ⊢
      rw [hx]
      simp only [flat, List.nodup_cons, List.mem_cons, List.mem_append, not_or, List.nodup_append] at n y ⊢
      obtain ⟨⟨a1, a2, a3, a4, a5⟩, ⟨b1, b2, b3, b4⟩, ⟨c1, c2, c3⟩, ⟨e1, e2⟩, n1, n2, n3⟩ := n
      refine ⟨⟨a1, a2, a3, a4, ?_, ?_, a5⟩, ⟨b1, b2, b3, ?_, ?_, b4⟩, ⟨c1, c2, ?_, ?_, c3⟩, ⟨e1, ?_, ?_, e2⟩, n1, ⟨⟨by omega, fun z => ?_⟩, fun z => ?_, n2⟩, fun i hi j hj => ?_⟩
      · exact (y _ (by simp)).1
      · exact (y _ (by simp)).2
      · exact (y _ (by simp)).1
      · exact (y _ (by simp)).2
      · exact (y _ (by simp)).1
      · exact (y _ (by simp)).2
      · exact (y _ (by simp)).1
      · exact (y _ (by simp)).2
      · exact (y _ (by simp [z])).1 rfl
      · exact (y _ (by simp [z])).2 rfl
      · rcases hj with rfl | rfl | hj
        · exact (y _ (by simp [hi])).1
        · exact (y _ (by simp [hi])).2
        · exact n3 i hi j hj
    lo := fun i hi => by
      have y : i ∈ adr w L ∨ i = st.length ∨ i = st.length + 1 := by
        simp only [adr, hx, flat, List.mem_cons, List.mem_append] at hi ⊢
        rcases hi with q | q | q | q | q | q | q | q <;> simp [q]
      rw [List.length_set, List.length_append]
      have z := (h.lo L.fl (by simp [adr])).1
      rcases y with y | y | y
      · have := h.lo i y; simp only [List.length_cons, List.length_nil]; omega
      · simp; omega
      · simp; omega
    pre := fun i hi => by
      have z := (h.lo L.fl (by simp [adr]))
      rw [dI (by omega), iT (by omega)]; exact h.pre i hi }
end
section
variable {w : Way} {s0 st : Store} {L : Ly} {S : Rn} {f : Fm} {b : Nat}
@[simp] theorem vp : (aj w L S).lookup (Str.ofString "pieces") = some (nQ S.bk) := by cases w <;> simp [aj, core, List.lookup, ak]
@[simp] theorem g_base : (aj w L S).lookup (Str.ofString "base") = some (tS S.base) := by cases w <;> simp [aj, core, List.lookup, ak]
@[simp] theorem g_left : (aj w L S).lookup (Str.ofString "left") = some (.int S.left) := by cases w <;> simp [aj, core, List.lookup, ak]
@[simp] theorem g_shelf : (aj w L S).lookup (Str.ofString "shelf") = some (.ref L.sh) := by cases w <;> simp [aj, core, List.lookup, ak]
@[simp] theorem jU : (aj w L S).lookup (Str.ofString "told_events") = some (.ref L.ev) := by cases w <;> simp [aj, core, List.lookup, ak]
@[simp] theorem g_ended : (aj w L S).lookup (Str.ofString "ended") = some (oU S.ended) := by cases w <;> simp [aj, core, List.lookup, ak]
@[simp] theorem vq : (aj w L S).lookup (Str.ofString "frames") = some (.ref L.fl) := by cases w <;> simp [aj, core, List.lookup, ak]
@[simp] theorem sH : (aj w L S).lookup (Str.ofString "deepest") = some (.int S.deepest) := by cases w <;> simp [aj, core, List.lookup, ak]
@[simp] theorem n_top : (aj w L S).lookup (Str.ofString "top") = none := by cases w <;> simp [aj, core, List.lookup, ak]
@[simp] theorem n_enter : (aj w L S).lookup (Str.ofString "enter") = none := by cases w <;> simp [aj, core, List.lookup, ak]
@[simp] theorem n_place : (aj w L S).lookup (Str.ofString "place") = none := by cases w <;> simp [aj, core, List.lookup, ak]
@[simp] theorem n_stop : (aj w L S).lookup (Str.ofString "stop") = none := by cases w <;> simp [aj, core, List.lookup, ak]
@[simp] theorem n_go_on : (aj w L S).lookup (Str.ofString "go_on") = none := by cases w <;> simp [aj, core, List.lookup, ak]
@[simp] theorem n_done : (aj w L S).lookup (Str.ofString "done") = none := by cases w <;> simp [aj, core, List.lookup, ak]
@[simp] theorem n_asked : (aj w L S).lookup (Str.ofString "asked") = none := by cases w <;> simp [aj, core, List.lookup, ak]
@[simp] theorem mZ : (aj w L S).lookup (Str.ofString "ends_with") = none := by cases w <;> simp [aj, core, List.lookup, ak]
@[simp] theorem oX : (aj w L S).lookup (Str.ofString "use_call") = none := by cases w <;> simp [aj, core, List.lookup, ak]
@[simp] theorem rW : (aj w L S).lookup (Str.ofString "why_not") = none := by cases w <;> simp [aj, core, List.lookup, ak]
@[simp] theorem n_call : (aj w L S).lookup (Str.ofString "call") = none := by cases w <;> simp [aj, core, List.lookup, ak]
@[simp] theorem n_ask : (aj w L S).lookup (Str.ofString "ask") = none := by cases w <;> simp [aj, core, List.lookup, ak]
@[simp] theorem oY : (aj w L S).lookup (Str.ofString "row_done") = none := by cases w <;> simp [aj, core, List.lookup, ak]
@[simp] theorem n_go : (aj w L S).lookup (Str.ofString "go") = none := by cases w <;> simp [aj, core, List.lookup, ak]
@[simp] theorem n_give : (aj w L S).lookup (Str.ofString "give") = none := by cases w <;> simp [aj, core, List.lookup, ak]
@[simp] theorem n_value : (aj w L S).lookup (Str.ofString "value") = none := by cases w <;> simp [aj, core, List.lookup, ak]
@[simp] theorem n_paper_of : (aj w L S).lookup (Str.ofString "paper_of") = none := by cases w <;> simp [aj, core, List.lookup, ak]
@[simp] theorem nf_give : (aN f b).lookup (Str.ofString "give") = none := by simp [aN, List.lookup, ak]
@[simp] theorem uN : (aN f b).lookup (Str.ofString "value") = none := by simp [aN, List.lookup, ak]
@[simp] theorem vo : (aN f b).lookup (Str.ofString "piece") = some (f.pc.u) := by simp [aN, List.lookup, ak]
@[simp] theorem jT : (aN f b).lookup (Str.ofString "locals_now") = some (.ref b) := by simp [aN, List.lookup, ak]
@[simp] theorem gf_at : (aN f b).lookup (Str.ofString "at") = some (.int f.pos) := by simp [aN, List.lookup, ak]
@[simp] theorem vh : (aN f b).lookup (Str.ofString "waits") = some (oS f.waits) := by simp [aN, List.lookup, ak]
@[simp] theorem vm : (aN f b).lookup (Str.ofString "vouch") = some (tS f.vouch) := by simp [aN, List.lookup, ak]
@[simp] theorem o7 : (aN f b).lookup (Str.ofString "set_now") = some (tS f.now) := by simp [aN, List.lookup, ak]
@[simp] theorem pf_at (n : Nat) : cM (Str.ofString "at") (.int n) (aN f b) = aN {f with pos := n} b := by simp [aN, cM, bU]
@[simp] theorem uA (x : Str) : cM (Str.ofString "waits") (.str x) (aN f b) = aN {f with waits := some x} b := by simp [aN, cM, bU, oS]
@[simp] theorem rM : cM (Str.ofString "waits") .non (aN f b) = aN {f with waits := none} b := by simp [aN, cM, bU, oS]
@[simp] theorem p_left (n : Nat) : cM (Str.ofString "left") (.int n) (aj w L S) = aj w L {S with left := n} := by cases w <;> simp [aj, core, cM, bU]
@[simp] theorem rN (n : Nat) : cM (Str.ofString "deepest") (.int n) (aj w L S) = aj w L {S with deepest := n} := by cases w <;> simp [aj, core, cM, bU]
@[simp] theorem g_papers : (aj .walk L S).lookup (Str.ofString "papers") = some (.ref L.p) := by simp [aj, core, List.lookup, ak]
@[simp] theorem g_needs : (aj .melt L S).lookup (Str.ofString "needs_now") = some (.ref L.p) := by simp [aj, core, List.lookup, ak]
@[simp] theorem g_stops : (aj .melt L S).lookup (Str.ofString "stops_now") = some (.ref L.q) := by simp [aj, core, List.lookup, ak]
@[simp] theorem p_needs (n : Nat) : cM (Str.ofString "needs_now") (.ref n) (aj .melt L S) = aj .melt {L with p := n} S := by simp [aj, core, cM, bU]
@[simp] theorem p_stops (n : Nat) : cM (Str.ofString "stops_now") (.ref n) (aj .melt L S) = aj .melt {L with q := n} S := by simp [aj, core, cM, bU]
@[simp] theorem rG : (aj w L S).length < 1000 := by cases w <;> simp [aj, core]
@[simp] theorem vz : (aN f b).length < 1000 := by simp [aN]
@[simp] theorem last_rev (a : Nat × Nat) (r : List (Nat × Nat)) (g : Nat × Nat → U) : atI ((r.map g).reverse ++ [g a]) (-1) = some (g a) := by
  have e : ixN ((r.map g).reverse ++ [g a]).length (-1) = some r.length := by
    unfold ixN
    rw [if_neg (by omega), if_pos (by simp; omega)]
    simp
    omega
  unfold atI
  rw [e]
  simp
@[simp] theorem cls_ne : ¬ (w.cls = Str.ofString "Frame") := by cases w <;> simp [Way.cls, bU]
end
noncomputable def fnU (n : Str) (vs : List U) : U := .tup [.str wFun, .str n, .tup vs]
noncomputable def Fm.val (f : Fm) (x : Str) : U := (getA f.loc x).getD (.int 0)
noncomputable def Fm.giv (f : Fm) (x : Str) (v : U) : Fm := {f with loc := ug f.loc x v}
noncomputable def Fm.on (f : Fm) (k : Nat) : Fm := {f with pos := f.pos + (1 + k)}
noncomputable def Rn.place (S : Rn) : List U := match S.frames with
  | f :: _ => [.str f.pc.name, .int f.pos]
  | [] => []
noncomputable def Rn.stop (S : Rn) (l : List U) : Rn := {S with ended := some (.tup (l ++ S.place))}
noncomputable def Rn.goOn (S : Rn) (k : Nat) : Rn := {S with frames := match S.frames with
  | f :: fs => f.on k :: fs
  | [] => []}
noncomputable def Rn.done (S : Rn) (x : Str) (v : U) : Rn := {S with evs := S.evs ++ [.tup ([.str (Str.ofString "deed"), .str x, v] ++ S.place)]}
noncomputable def arith (f : Fm) (x : Str) (op : Int → Int → Int) (u v : U) : Option Str × Fm := match u, v with
  | .int i, .int j => if okN (op i j) = true then (none, f.giv x (.int (op i j))) else (some (Str.ofString "great"), f)
  | _, _ => (some (Str.ofString "function"), f)
noncomputable def oM (f : Fm) (sh : List (Str × U)) : Row → Option Str × Fm × List (Str × U)
  | .set x n => (none, f.giv x (.int n), sh)
  | .same x a => (none, f.giv x (f.val a), sh)
  | .keep c a => (none, f, ug sh c (f.val a))
  | .kept x c => (none, f.giv x ((getA sh c).getD (.int 0)), sh)
  | .hold x n as => if 4 < vL 5 (fnU n (as.map f.val)) then (some (Str.ofString "deep"), f, sh) else (none, f.giv x (fnU n (as.map f.val)), sh)
  | .sum x a b => let q := arith f x (· + ·) (f.val a) (f.val b); (q.1, q.2, sh)
  | .less x a b => let q := arith f x (· - ·) (f.val a) (f.val b); (q.1, q.2, sh)
  | _ => (none, f, sh)
noncomputable def nA (bk : List Piece) (n : Str) : Option Piece := bk.find? fun p => decide (p.name = n)
noncomputable def nZ (bk : List Piece) (v : U) (k : Nat) : Option Str := match v with
  | .tup [_, .str n, .tup us] => match nA bk n with
    | none => some (Str.ofString "nobody")
    | some p => if us.length + k = p.params.length then none else some (Str.ofString "many")
  | _ => some (Str.ofString "number")
noncomputable def vG (own caller theirs vouch : List Str) : List Str := jf own (u6 caller (jf vouch theirs))
noncomputable def zipA (ks : List Str) (vs : List U) : List (Str × U) := (ks.zip vs).foldl (fun acc p => ug acc p.1 p.2) []
noncomputable def jR (p : Piece) (gv : List U) : Fm := ⟨p, zipA p.params gv, 0, none, [], []⟩
noncomputable def Rn.push (S : Rn) (f : Fm) : Rn := {S with frames := f :: S.frames, deepest := max S.deepest (S.frames.length + 1)}
noncomputable def Rn.enter (w : Way) (S : Rn) (p : Piece) (gv : List U) (c : Option Fm) (vs : List Str) : Rn := match w, c with
  | .hand, none => S.push {jR p gv with now := jf p.own S.base}
  | .hand, some c => (if c.waits = none then {S with frames := S.frames.drop 1} else S).push {jR p gv with now := vG p.own c.now c.pc.own vs}
  | .walk, none => S.push (jR p gv)
  | .walk, some c => ({S with frames := {c with vouch := vs} :: S.frames.drop 1} : Rn).push (jR p gv)
  | .melt, none => ({S with needs := p.own :: S.needs, stops := [] :: S.stops} : Rn).push (jR p gv)
  | .melt, some c => if c.waits = none then match S.needs, S.stops with
      | below :: ns, sb :: ss => ({S with frames := S.frames.drop 1, needs := jf p.own (u6 (jf c.pc.own vs) below) :: ns, stops := u6 (jf c.pc.own vs) (jf below sb) :: ss} : Rn).push (jR p gv)
      | _, _ => S
    else ({S with needs := p.own :: S.needs, stops := jf c.pc.own vs :: S.stops} : Rn).push (jR p gv)
noncomputable def Rn.use (S : Rn) (k : Rn → Rn) : Rn := match S.left with
  | 0 => S.stop [.str (Str.ofString "spent")]
  | n + 1 => k {S with left := n}
noncomputable def Rn.call (w : Way) (S : Rn) (f : Fm) (fs : List Fm) (x : Option Str) (g : Str) (as vs : List Str) : Rn := match nZ S.bk (f.val g) as.length with
  | some y => S.stop [.str (Str.ofString "stuck"), .str y]
  | none => S.use fun S => match f.val g with
    | .tup [_, .str n, .tup us] => match nA S.bk n with
      | some p =>
        let c := {f with waits := match x with | some y => some y | none => f.waits}
        ({S with frames := c :: fs} : Rn).enter w p (us ++ as.map f.val) (some c) vs
      | none => S
    | _ => S
noncomputable def Rn.qK (S : Rn) (v : U) : Rn := match (S.frames.drop 1).dropWhile (fun f => f.waits.isNone) with
  | [] => {S with frames := [], ended := some (.tup [.str (Str.ofString "gives"), v])}
  | f :: r => {S with frames := ({f.giv (f.waits.getD (Str.ofString "")) v with waits := none} : Fm).on 0 :: r}
noncomputable def Rn.ends (w : Way) (S : Rn) (v : U) : Rn :=
  let S1 := S.qK v
  match w with
  | .hand => S1
  | .walk => {S1 with frames := match S1.frames with
    | f :: r => {f with vouch := []} :: r
    | [] => []}
  | .melt => {S1 with needs := S1.needs.drop (S1.needs.length - S1.frames.length), stops := S1.stops.drop (S1.stops.length - S1.frames.length)}
noncomputable def frU (n : Str) (v : List Str) : U := .tup [.str n, tS v]
noncomputable def paper (base : List Str) (x : Str) : List Fm → Bool → List U → Str × List U
  | [], _, met => (if x ∈ base then Str.ofString "held" else Str.ofString "lacks", met)
  | f :: fs, first, met =>
    let v := if first = true then [] else f.vouch
    let met := met ++ [frU f.pc.name v]
    if x ∉ f.pc.own then (Str.ofString "lacks", met) else if x ∈ v then (Str.ofString "held", met) else paper base x fs false met
noncomputable def qd (base : List Str) (x : Str) : List (List Str) → List (List Str) → Bool
  | n :: ns, s :: ss => if x ∉ n then false else if x ∈ s then true else qd base x ns ss
  | _, _ => decide (x ∈ base)
noncomputable def Rn.asked (w : Way) (S : Rn) (x : Str) : Bool × Rn := match w with
  | .hand => (match S.frames with | f :: _ => decide (x ∈ f.now) | [] => false, S)
  | .melt => (qd S.base x S.needs S.stops, S)
  | .walk =>
    let p := paper S.base x S.frames true []
    (decide (p.1 = Str.ofString "held"), {S with papers := S.papers ++ [.tup [.str p.1, .lst p.2]]})
noncomputable def isZ : U → Bool
  | .int i => decide (i = 0)
  | _ => false
noncomputable def Rn.lA (w : Way) (S : Rn) (f : Fm) (fs : List Fm) : Row → Rn
  | .call x g as vs => S.call w f fs (some x) g as vs
  | .last g as vs => S.call w f fs none g as vs
  | .give a => S.ends w (f.val a)
  | .done x a => (S.done x (f.val a)).goOn 0
  | .skip a k => S.goOn (if isZ (f.val a) = true then k.toNat else 0)
  | .over k => S.goOn k.toNat
  | .on => S.goOn 0
  | .count => S.use fun S => S.goOn 0
  | .ask x k =>
    let q := S.asked w x
    ({q.2 with evs := q.2.evs ++ [.tup ([.str (Str.ofString "ask"), .str x, .bl q.1] ++ q.2.place)]} : Rn).goOn (if q.1 = true then 0 else k.toNat)
  | .deed x a =>
    let q := S.asked w x
    if q.1 = true then (q.2.done x (f.val a)).goOn 0 else q.2.stop [.str (Str.ofString "refused"), .str x]
  | r => match oM f S.shelf r with
    | (some y, _, _) => S.stop [.str (Str.ofString "stuck"), .str y]
    | (none, f', sh') => ({S with frames := f' :: fs, shelf := sh'} : Rn).goOn 0
noncomputable def Rn.step (w : Way) (S : Rn) : Rn := match S.frames with
  | [] => S
  | f :: fs => match f.pc.rows[f.pos]? with
    | none => S.ends w (.int 0)
    | some r => S.lA w f fs r
noncomputable def Rn.go (w : Way) : Nat → Rn → Rn
  | 0, S => S
  | n + 1, S => match S.ended with
    | some _ => S
    | none => Rn.go w n (S.step w)
noncomputable def oA (bk : List Piece) (base : List Str) (calls : Nat) (cells : List (Str × U)) : Rn := ⟨bk, base, calls, cells, [], none, [], 0, [], [], []⟩
noncomputable def Rn.start (w : Way) (bk : List Piece) (p : Piece) (inp : List U) (base : List Str) (calls : Nat) (cells : List (Str × U)) : Rn := (oA bk base calls cells).enter w p inp none []
end R
namespace ao
open PySem L2 D
noncomputable def oh (i : Nat) : Stmt := PySem.Challenge.pw_allcallers_k36_numbers_of_leaves.main.body.getD i (.Pass ⟨0, 0, 0, 0⟩)
noncomputable abbrev eZ : Stmt := oh 4
noncomputable abbrev uR : List Str := [Str.ofString "_law_hand_here", Str.ofString "_law_many", Str.ofString "_law_found"]
theorem iz : FnScope uR [Str.ofString "_law_hand_here", Str.ofString "_law_many"] (defScope eZ) := ⟨rfl, rfl, rfl, by decide +kernel, rfl, by decide +kernel, by decide +kernel⟩
noncomputable abbrev dh : Stmt := oh 6
noncomputable abbrev lF : List Str := [Str.ofString "_law_roster", Str.ofString "_law_leaves", Str.ofString "_law_found", Str.ofString "_law_bit", Str.ofString "_law_word"]
theorem dC : FnScope lF [Str.ofString "_law_roster", Str.ofString "_law_leaves"] (defScope dh) := ⟨rfl, rfl, rfl, by decide +kernel, rfl, by decide +kernel, by decide +kernel⟩
noncomputable abbrev eY : Stmt := oh 3
noncomputable abbrev uQ : List Str := [Str.ofString "_law_script", Str.ofString "_law_k", Str.ofString "_law_cell", Str.ofString "_law_seed"]
theorem fQ : FnScope uQ [Str.ofString "_law_script", Str.ofString "_law_k"] (defScope eY) := ⟨rfl, rfl, rfl, by decide +kernel, rfl, by decide +kernel, by decide +kernel⟩
noncomputable abbrev cA : Stmt := oh 1
noncomputable abbrev i9 : List Str := [Str.ofString "roster", Str.ofString "leaves", Str.ofString "place", Str.ofString "word"]
theorem cZ : FnScope i9 [Str.ofString "roster", Str.ofString "leaves"] (defScope cA) := ⟨rfl, rfl, rfl, by decide +kernel, rfl, by decide +kernel, by decide +kernel⟩
noncomputable abbrev bW : Stmt := oh 7
noncomputable abbrev dW : List Str := [Str.ofString "_law_roster", Str.ofString "_law_leaves", Str.ofString "_law_found", Str.ofString "_law_words_here", Str.ofString "_law_more", Str.ofString "_law_word", Str.ofString "_law_one"]
theorem bD : FnScope dW [Str.ofString "_law_roster", Str.ofString "_law_leaves"] (defScope bW) := ⟨rfl, rfl, rfl, by decide +kernel, rfl, by decide +kernel, by decide +kernel⟩
noncomputable abbrev bV : Stmt := oh 5
noncomputable abbrev dU : List Str := [Str.ofString "_law_hand_here", Str.ofString "_law_many", Str.ofString "_law_letters", Str.ofString "_law_first", Str.ofString "_law_tail", Str.ofString "_law_word", Str.ofString "_law_k", Str.ofString "_law_j"]
theorem aU : FnScope dU [Str.ofString "_law_hand_here", Str.ofString "_law_many"] (defScope bV) := ⟨rfl, rfl, rfl, by decide +kernel, rfl, by decide +kernel, by decide +kernel⟩
noncomputable abbrev cR : Stmt := oh 8
noncomputable abbrev jA : List Str := [Str.ofString "_law_script", Str.ofString "_law_seen", Str.ofString "_law_ahead", Str.ofString "_law_k", Str.ofString "_law_roster", Str.ofString "_law_every", Str.ofString "_law_hand_here", Str.ofString "_law_leaves", Str.ofString "_law_some", Str.ofString "_law_number", Str.ofString "_law_word", Str.ofString "_law_place"]
theorem bK : FnScope jA [Str.ofString "_law_script"] (defScope cR) := ⟨rfl, rfl, rfl, by decide +kernel, rfl, by decide +kernel, by decide +kernel⟩
noncomputable def fK : DS := (aF (sIf (tst (bin gt2 (ixR (var 0) (cst (.int 0))) (cst (.int 0)))) (aF (bh 2 (bin mod2 (ixR (var 0) (cst (.int 0))) (var 1))) (aF (rF (var 0) (cst (.int 0)) (bin jd (ixR (var 0) (cst (.int 0))) (var 1))) (aF (di (var 2)) bL))) bL) (aF (rF (var 0) (cst (.int 1)) (bin mod2 (bin bQ (bin dN (ixR (var 0) (cst (.int 1))) (cst (.int 48271))) (cst (.int 11))) (cst (.int 2147483647)))) (aF (di (bin mod2 (bin jd (bin mod2 (bin dN (ixR (var 0) (cst (.int 1))) (ixR (var 0) (cst (.int 1)))) (cst (.int 2147483629))) (cst (.int 64))) (var 1))) bL)))
noncomputable def aG : List U → Store → Rs U := runB 3 2 fK
noncomputable def dB : DS := (aF (sIf (tst (bin in2 (var 4) (var 1))) (aF (bh 2 (bin bQ (var 2) (var 3))) bL) bL) (aF (bh 3 (bin bQ (var 3) (var 3))) bL))
noncomputable def lW : DS := (aF (bh 2 (cst (.int 0))) (aF (bh 3 (cst (.int 1))) (aF (oG (cH (var 0)) (tgN 4) dB) (aF (di (var 2)) bL))))
noncomputable def cQ : List U → Store → Rs U := runB 5 2 lW
noncomputable def fJ : DS := (aF (bh 2 (bin ix2 (bin bQ (slD (var 0) (soO (var 1)) (soO (bin bQ (var 1) (cst (.int 1))))) (aQ szL (aa (cst (.int 0)) az))) (cst (.int 0)))) (aF (bh 3 (bin mod2 (bin dN (bin bQ (bin bQ (bin mod2 (var 2) (cst (.int 2147483647))) (bin dN (cst (.int 7919)) (var 1))) (cst (.int 1))) (cst (.int 48271))) (cst (.int 2147483629)))) (aF (di (refL (szDL (aa (bin dN (aQ sG (aa (bin ge2 (var 2) (bin rK (cst (.int 10)) (cst (.int 18)))) az)) (var 2)) (aa (var 3) az))))) bL)))
noncomputable def cI : List U → Store → Rs U := runB 4 2 fJ
noncomputable def cX : DS := (aF (di (aQ tR (aa (bO (bG (itA bj (aa (var 0) az)) [2, 3] (tgT [2, 3]) (tst (bin in2 (var 3) (var 1))) (bin oF (cst (.int 1)) (var 2)))) az))) bL)
noncomputable def aA : List U → Store → Rs U := runB 4 2 cX
noncomputable def iQ : DS := (aF (bh 2 (bo aA (aa (var 0) (aa (var 1) az)))) (aF (bh 3 (bO (bG (cH (aQ szT (aa (cst (.str (Str.ofString "aaaaaaaa"))) (aa (cst (.str (Str.ofString "mmmmmmmm"))) (aa (cst (.str (Str.ofString "zzzzzzzz"))) az))))) [5] (tgN 5) (andT (tst (bin uM (var 5) (var 0))) (tst (bin lt2 (aQ gJ (aa (var 1) az)) (cst (.int 8))))) (var 5)))) (aF (bh 4 (bO (bG (cH (var 3)) [5] (tgN 5) dG (aQ eU (aa (bO (itE fP (bin bQ (var 1) (aQ szT (aa (var 5) az))))) az))))) (aF (sIf (tst (bin ne2 (bO (bG (cH (var 4)) [6] (tgN 6) dG (bo aA (aa (var 0) (aa (var 6) az))))) (bin dN (aQ szL (aa (var 2) az)) (aQ gJ (aa (var 4) az))))) (aF (di (cst (.bl false))) bL) bL) (aF (di (andV (aQ aP (aa (var 2) (aa (cst (.ty "int")) az))) (andV (notV (aQ aP (aa (var 2) (aa (cst (.ty "bool")) az)))) (bin eq2 (var 2) (bo cQ (aa (var 0) (aa (var 1) az))))))) bL)))))
noncomputable def cO : List U → Store → Rs U := runB 7 2 iQ
noncomputable def dw : DS := (aF (bh 2 (cst (.str (Str.ofString "abcdefghijklmnopqrstuvwxyz")))) (aF (bh 3 (bo aG (aa (var 0) (aa (cst (.int 26)) az)))) (aF (sIf (tst (bin eq2 (bo aG (aa (var 0) (aa (cst (.int 3)) az))) (cst (.int 0)))) (aF (bh 5 (qp (cst (.str (Str.ofString ""))) (bO (bG (itA fX (aa (cst (.int 8)) az)) [7] (tgN 7) dG (bin ix2 (var 2) (bin mod2 (bin bQ (var 3) (bin dN (cst (.int 5)) (var 7))) (cst (.int 26)))))))) (aF (di (bO (bG (itA fX (aa (var 1) az)) [6] (tgN 6) dG (slD (var 5) noO (soO (bin bQ (cst (.int 1)) (var 6))))))) bL)) bL) (aF (bh 4 (bin ix2 (aQ szL (aa (cst (.str (Str.ofString ""))) (aa (cst (.str (Str.ofString "o"))) (aa (cst (.str (Str.ofString "mine"))) (aa (cst (.str (Str.ofString "zzzzzzz"))) az))))) (bo aG (aa (var 0) (aa (cst (.int 4)) az))))) (aF (di (bO (bG (itA fX (aa (var 1) az)) [6] (tgN 6) dG (bin bQ (bin ix2 (var 2) (bin mod2 (bin bQ (var 3) (bin dN (cst (.int 3)) (var 6))) (cst (.int 26)))) (var 4))))) bL)))))
noncomputable def cC : List U → Store → Rs U := runB 8 2 dw
noncomputable def d8 : DS := (aF (sIf (orT (notT (tst (bo cO (aa (var 4) (aa (var 8) az))))) (notT (tst (bo cO (aa (var 2) (aa (slD (var 2) (soO (cst (.int 1))) noO) az)))))) (aF (di (cst (.bl false))) bL) bL) bL)
noncomputable def gA [Wor] : DS := (aF (bh 6 (bo cI (aa (var 0) (aa (var 3) az)))) (aF (bh 4 (aQ eU (aa (bO (itE fO (bo cC (aa (var 6) (aa (bo aG (aa (var 6) (aa (cst (.int 9)) az))) az))))) az))) (aF (bh 7 (aQ eU (aa (bO (bG (cH (var 4)) [10] (tgN 10) (tst (bin eq2 (bo aG (aa (var 6) (aa (cst (.int 2)) az))) (cst (.int 0)))) (var 10))) az))) (aF (oG (cH (aQ szL (aa (var 7) (aa (var 4) (aa (aQ szT az) az))))) (tgN 8) d8) (aF (pQ (var 1) (aQ szT (aa (var 4) (aa (bo aA (aa (var 4) (aa (var 7) az))) az))) (var 7)) (aF (sIf (tst (bin ne2 (ixN' (var 1) (aQ szT (aa (var 4) (aa (bo cQ (aa (var 4) (aa (var 7) az))) az)))) (var 7))) (aF (di (cst (.bl false))) bL) bL) (aF (bh 2 (var 4)) bL)))))))
noncomputable def b_law [Wor] : DS := (aF (bh 1 pU) (aF (bh 2 (aQ szT az)) (aF (oG (itA fX (aa (aQ rZ (aa (cst (.int 2)) (aa (aQ rY (aa (aQ gJ (aa (var 0) az)) (aa (cst (.int 60)) az))) az))) az)) (tgN 3) gA) (aF (bh 4 (aQ szT (aa (cst (.str (Str.ofString "a"))) (aa (cst (.str (Str.ofString "aa"))) (aa (cst (.str (Str.ofString "b"))) az))))) (aF (bh 5 (bO (bG (itA fX (aa (cst (.int 8)) az)) [9] (tgN 9) dG (aQ eU (aa (bO (bG (itA bj (aa (var 4) az)) [11, 10] (tgT [11, 10]) (tst (bin eq2 (bin lZ (bin lu (var 9) (var 11)) (cst (.int 1))) (cst (.int 1)))) (var 10))) az))))) (aF (di (bin eq2 (bO (bG (cH (var 5)) [7] (tgN 7) dG (bo aA (aa (var 4) (aa (var 7) az))))) (bO (iI (cst (.int 8)))))) bL))))))
noncomputable def qF [Wor] : List U → Store → Rs U := runB 12 1 b_law
structure Tx (K : PySem.W.Frag) (w : World) (mg : Str → Option Value) : Prop where
  b_bool : mg "bool" = none
  b_enumerate : mg "enumerate" = none
  b_int : mg "int" = none
  b_isinstance : mg "isinstance" = none
  b_len : mg "len" = none
  b_list : mg "list" = none
  b_max : mg "max" = none
  b_min : mg "min" = none
  b_range : mg "range" = none
  b_sorted : mg "sorted" = none
  b_sum : mg "sum" = none
  b_tuple : mg "tuple" = none
section
variable {P : Program} [Wor] {K : PySem.W.Frag} {mg : Str → Option Value} {base : Heap} {xs : XS}
set_option maxHeartbeats 4000000 in
theorem rP (T : Tx K Wor.w mg) {f : Addr} {fd : FuncData} (F : Fun K "_law_draw" "_law_draw" eZ f fd) : FnOk P Wor.w K mg base (L2.CX P Wor.w) 1 f fd [Str.ofString "_law_hand_here", Str.ofString "_law_many"] (spD K xs 2 (runB 3 2 fK)) :=
  o8 F iz fun cdv A outer sh H E hr => by
  exact (aw (s_if (fZ o_gt (kh (dv 0) aH (fun _ _ => rfl)) aH) (aw (sset 2 iz.nd (aR i7 (kh (dv 0) aH (fun _ _ => rfl)) (dv 1)))
    (aw (s_ixR (dv 0) aH (aR uG (kh (dv 0) aH (fun _ _ => rfl)) (dv 1)))
    (aw (s_ret (dv 2))
    aZ))) aZ)
    (aw (s_ixR (dv 0) aH (aR i7 (aR eE (aR i6 (kh (dv 0) aH (fun _ _ => rfl)) aH) aH) aH))
    (aw (s_ret (aR i7 (aR uG (aR i7 (aR i6 (kh (dv 0) aH (fun _ _ => rfl)) (kh (dv 0) aH (fun _ _ => rfl))) aH) aH) (dv 1)))
    aZ)))
set_option maxHeartbeats 4000000 in
theorem uF (T : Tx K Wor.w mg) {f : Addr} {fd : FuncData} (F : Fun K "_law_due" "_law_due" dh f fd) : FnOk P Wor.w K mg base (L2.CX P Wor.w) 1 f fd [Str.ofString "_law_roster", Str.ofString "_law_leaves"] (spD K xs 2 (runB 5 2 lW)) :=
  o8 F dC fun cdv A outer sh H E hr => by
  have hp : PassesOwn (model P Wor.w) (A.deeper (PyProof.Rows.envOfC "_law_due" (defScope dh) sh.heap.objs.size f cdv)) (PyProof.Rows.envOfC "_law_due" (defScope dh) sh.heap.objs.size f cdv) (cxOf (L2.CX P Wor.w) P Wor.w K mg base lF "_law_due" (defScope dh) f cdv A outer sh H E).xe := passes_of (X := cxOf (L2.CX P Wor.w) P Wor.w K mg base lF "_law_due" (defScope dh) f cdv A outer sh H E) rfl
  exact (aw (sset 2 dC.nd aH)
    (aw (sset 3 dC.nd aH)
    (aw (tZ hp rfl (jF (dv 0)) (gn 4 dC.nd) (b := dB) (aw (s_if (fZ (o_in (u65 hr)) (dv 4) (dv 1)) (aw (sset 2 dC.nd (aR eE (dv 2) (dv 3)))
    aZ) aZ)
    (aw (sset 3 dC.nd (aR eE (dv 3) (dv 3)))
    aZ)))
    (aw (s_ret (dv 2))
    aZ))))
set_option maxHeartbeats 4000000 in
theorem rO (T : Tx K Wor.w mg) {f : Addr} {fd : FuncData} (F : Fun K "_law_hand" "_law_hand" eY f fd) : FnOk P Wor.w K mg base (L2.CX P Wor.w) 1 f fd [Str.ofString "_law_script", Str.ofString "_law_k"] (spD K xs 2 (runB 4 2 fJ)) :=
  o8 F fQ fun cdv A outer sh H E hr => by
  exact (aw (sset 2 fQ.nd (d_ix (aR eE (lO (dv 0) (jm (dv 1)) (jm (aR eE (dv 1) aH))) (qO (au aH aJ))) aH (fun _ _ => rfl)))
    (aw (sset 3 fQ.nd (aR i7 (aR i6 (aR eE (aR eE (aR i7 (dv 2) aH) (aR i6 aH (dv 1))) aH) aH) aH))
    (aw (s_ret (d_refL (l_lst (au (aR i6 (g8 c_int (by rfl) T.b_int vQ (au (vM o_ge (dv 2) (aR o_pow aH aH)) aJ)) (dv 2)) (au (dv 3) aJ)))))
    aZ)))
set_option maxHeartbeats 4000000 in
theorem lC (T : Tx K Wor.w mg) {f : Addr} {fd : FuncData} (F : Fun K "number_of" "number_of" cA f fd) : FnOk P Wor.w K mg base (L2.CX P Wor.w) 1 f fd [Str.ofString "roster", Str.ofString "leaves"] (spD K xs 2 (runB 4 2 cX)) :=
  o8 F cZ fun cdv A outer sh H E hr => by
  exact (aw (s_ret (dH (x := "sum") (c_sum rfl) (by rfl) T.b_sum bt_sum (au (fH (fj (own := [("place", 2), ("word", 3)]) rfl cZ.nd (jc rfl T.b_enumerate (au (dv 0) aJ)) (blkOk_by (N := i9) (sc := defScope cA) (by decide +kernel)) (hvs_T (by decide)) (fun _ _ _ _ _ => (g_tup rfl cZ.nd (gc 2 (gc 3 .nil)))) (fun _ _ _ _ _ => (kY (fZ (o_in (u65 hr)) (dv 3) (dv 1)))) (fun _ _ _ _ _ => (aR o_shl aH (dv 2))))) aJ)))
    aZ)
set_option maxHeartbeats 4000000 in
theorem oV (T : Tx K Wor.w mg) (F_l_due : Fn P Wor.w K mg base xs "_law_due" 1 2 cQ) (F_number_of : Fn P Wor.w K mg base xs "number_of" 1 2 aA) {f : Addr} {fd : FuncData} (F : Fun K "_law_right" "_law_right" bW f fd) : FnOk P Wor.w K mg base (L2.CX P Wor.w) 2 f fd [Str.ofString "_law_roster", Str.ofString "_law_leaves"] (spD K xs 2 (runB 7 2 iQ)) :=
  o8 F bD fun cdv A outer sh H E hr => by
  have tk : Takes (cxOf (L2.CX P Wor.w) P Wor.w K mg base dW "_law_right" (defScope bW) f cdv A outer sh H E) (fun cls d _ H => E cls d H) := takes_of rfl rfl rfl rfl
  exact (aw (sset 2 bD.nd (bF (x := "number_of") F_number_of tk (hr.mono (by decide)) (by rfl) (au (dv 0) (au (dv 1) aJ))))
    (aw (jt (own := [("_law_word", 5)]) rfl bD.nd (i := 3) rfl rfl (sw_true rfl rfl rfl (by decide +kernel)) (jF (jL (au eQ (au eQ (au eQ aJ))))) (blkOk_by (N := dW) (sc := defScope bW) (by decide +kernel)) (gU (by decide)) (fun _ _ _ _ _ => (gn 5 bD.nd)) (fun _ _ _ _ _ => (kY (PW.pt (w_and (fZ (o_nin (u65 hr)) (dv 5) (dv 0)) (w_and1 (fZ o_lt (dH (x := "len") vP (by rfl) T.b_len pC (au (dv 1) aJ)) aH)))))) (fun _ _ _ _ _ => (dv 5)))
    (aw (jt (own := [("_law_word", 5)]) rfl bD.nd (i := 4) rfl rfl (sw_true rfl rfl rfl (by decide +kernel)) (jF (dv 3)) (blkOk_by (N := dW) (sc := defScope bW) (by decide +kernel)) (gU (by decide)) (fun _ _ _ _ _ => (gn 5 bD.nd)) (fun _ _ _ _ _ => gq) (fun _ _ _ _ _ => (g8 qQ (by rfl) T.b_tuple g_ (au (fH (uY (by rfl) T.b_sorted (aR eE (dv 1) (jL (au (dv 5) aJ))))) aJ))))
    (aw (s_if (fZ (o_ne hr.units) (fH (fj (own := [("_law_one", 6)]) rfl bD.nd (jF (dv 4)) (blkOk_by (N := dW) (sc := defScope bW) (by decide +kernel)) (gU (by decide)) (fun _ _ _ _ _ => (gn 6 bD.nd)) (fun _ _ _ _ _ => gq) (fun _ _ _ _ _ => (bF (x := "number_of") F_number_of takes0 (hr.mono (by decide)) (by rfl) (au (dv 0) (au (dv 6) aJ)))))) (aR i6 (qO (au (dv 2) aJ)) (dH (x := "len") vP (by rfl) T.b_len pC (au (dv 4) aJ)))) (aw (s_ret d_bl)
    aZ) aZ)
    (aw (s_ret (d_and (dH (x := "isinstance") c_isi (by rfl) T.b_isinstance gh (au (dv 2) (au (d_ty (by rfl) T.b_int vQ) aJ))) (d_and (d_not (dH (x := "isinstance") c_isi (by rfl) T.b_isinstance gh (au (dv 2) (au (d_ty (by rfl) T.b_bool bt_bool) aJ)))) (d_one (vM (uH hr.units) (dv 2) (bF (x := "_law_due") F_l_due tk (hr.mono (by decide)) (by rfl) (au (dv 0) (au (dv 1) aJ))))))))
    aZ)))))
set_option maxHeartbeats 4000000 in
theorem oR (T : Tx K Wor.w mg) (F_l_draw : Fn P Wor.w K mg base xs "_law_draw" 1 2 aG) {f : Addr} {fd : FuncData} (F : Fun K "_law_words" "_law_words" bV f fd) : FnOk P Wor.w K mg base (L2.CX P Wor.w) 2 f fd [Str.ofString "_law_hand_here", Str.ofString "_law_many"] (spD K xs 2 (runB 8 2 dw)) :=
  o8 F aU fun cdv A outer sh H E hr => by
  have tk : Takes (cxOf (L2.CX P Wor.w) P Wor.w K mg base dU "_law_words" (defScope bV) f cdv A outer sh H E) (fun cls d _ H => E cls d H) := takes_of rfl rfl rfl rfl
  exact (aw (sset 2 aU.nd eQ)
    (aw (sset 3 aU.nd (bF (x := "_law_draw") F_l_draw tk (hr.mono (by decide)) (by rfl) (au (dv 0) (au aH aJ))))
    (aw (s_if (fZ (uH hr.units) (bF (x := "_law_draw") F_l_draw tk (hr.mono (by decide)) (by rfl) (au (dv 0) (au aH aJ))) aH) (aw (sset 5 aU.nd (d_join eQ (fH (fj (own := [("_law_j", 7)]) rfl aU.nd (fu rfl T.b_range (au aH aJ)) (blkOk_by (N := dU) (sc := defScope bV) (by decide +kernel)) (gU (by decide)) (fun _ _ _ _ _ => (gn 7 aU.nd)) (fun _ _ _ _ _ => gq) (fun _ _ _ _ _ => (d_ix (dv 2) (aR i7 (aR eE (dv 3) (aR i6 aH (dv 7))) aH) (fun _ _ => rfl)))))))
    (aw (s_ret (fH (fj (own := [("_law_k", 6)]) rfl aU.nd (fu rfl T.b_range (au (dv 1) aJ)) (blkOk_by (N := dU) (sc := defScope bV) (by decide +kernel)) (gU (by decide)) (fun _ _ _ _ _ => (gn 6 aU.nd)) (fun _ _ _ _ _ => gq) (fun _ _ _ _ _ => (lO (dv 5) pW (jm (aR eE aH (dv 6))))))))
    aZ)) aZ)
    (aw (sset 4 aU.nd (d_ix (qO (au eQ (au eQ (au eQ (au eQ aJ))))) (bF (x := "_law_draw") F_l_draw tk (hr.mono (by decide)) (by rfl) (au (dv 0) (au aH aJ))) (fun _ _ => rfl)))
    (aw (s_ret (fH (fj (own := [("_law_k", 6)]) rfl aU.nd (fu rfl T.b_range (au (dv 1) aJ)) (blkOk_by (N := dU) (sc := defScope bV) (by decide +kernel)) (gU (by decide)) (fun _ _ _ _ _ => (gn 6 aU.nd)) (fun _ _ _ _ _ => gq) (fun _ _ _ _ _ => (aR eE (d_ix (dv 2) (aR i7 (aR eE (dv 3) (aR i6 aH (dv 6))) aH) (fun _ _ => rfl)) (dv 4))))))
    aZ)))))
set_option maxHeartbeats 4000000 in
theorem ok_law (T : Tx K Wor.w mg) (F_l_draw : Fn P Wor.w K mg base xs "_law_draw" 1 2 aG) (F_l_due : Fn P Wor.w K mg base xs "_law_due" 1 2 cQ) (F_l_hand : Fn P Wor.w K mg base xs "_law_hand" 1 2 cI) (F_l_right : Fn P Wor.w K mg base xs "_law_right" 2 2 cO) (F_l_words : Fn P Wor.w K mg base xs "_law_words" 2 2 cC) (F_number_of : Fn P Wor.w K mg base xs "number_of" 1 2 aA) {f : Addr} {fd : FuncData} (F : Fun K "law" "law" cR f fd) : FnOk P Wor.w K mg base (L2.CX P Wor.w) 3 f fd [Str.ofString "_law_script"] (spD K xs 1 (runB 12 1 b_law)) :=
  o8 F bK fun cdv A outer sh H E hr => by
  have tk : Takes (cxOf (L2.CX P Wor.w) P Wor.w K mg base jA "law" (defScope cR) f cdv A outer sh H E) (fun cls d _ H => E cls d H) := takes_of rfl rfl rfl rfl
  have hp : PassesOwn (model P Wor.w) (A.deeper (PyProof.Rows.envOfC "law" (defScope cR) sh.heap.objs.size f cdv)) (PyProof.Rows.envOfC "law" (defScope cR) sh.heap.objs.size f cdv) (cxOf (L2.CX P Wor.w) P Wor.w K mg base jA "law" (defScope cR) f cdv A outer sh H E).xe := passes_of (X := cxOf (L2.CX P Wor.w) P Wor.w K mg base jA "law" (defScope cR) f cdv A outer sh H E) rfl
  exact (aw (sset 1 bK.nd (d_refN0 rfl))
    (aw (sset 2 bK.nd (jL aJ))
    (aw (tZ hp rfl (fu rfl T.b_range (au (dH (x := "max") (c_max rfl) (by rfl) T.b_max bt_max (au aH (au (dH (x := "min") (c_min rfl) (by rfl) T.b_min bt_min (au (dH (x := "len") vP (by rfl) T.b_len pC (au (dv 0) aJ)) (au aH aJ))) aJ))) aJ)) (gn 3 bK.nd) (b := gA) (aw (sset 6 bK.nd (bF (x := "_law_hand") F_l_hand tk (hr.mono (by decide)) (by rfl) (au (dv 0) (au (dv 3) aJ))))
    (aw (sset 4 bK.nd (g8 qQ (by rfl) T.b_tuple g_ (au (fH (uX (by rfl) T.b_sorted (bF (x := "_law_words") F_l_words tk (hr.mono (by decide)) (by rfl) (au (dv 6) (au (bF (x := "_law_draw") F_l_draw tk (hr.mono (by decide)) (by rfl) (au (dv 6) (au aH aJ))) aJ))))) aJ)))
    (aw (sset 7 bK.nd (g8 qQ (by rfl) T.b_tuple g_ (au (fH (fj (own := [("_law_word", 10)]) rfl bK.nd (jF (dv 4)) (blkOk_by (N := jA) (sc := defScope cR) (by decide +kernel)) (gU (by decide)) (fun _ _ _ _ _ => (gn 10 bK.nd)) (fun _ _ _ _ _ => (kY (fZ (uH hr.units) (bF (x := "_law_draw") F_l_draw takes0 (hr.mono (by decide)) (by rfl) (au (dv 6) (au aH aJ))) aH))) (fun _ _ _ _ _ => (dv 10)))) aJ)))
    (aw (tZ hp rfl (jF (qO (au (dv 7) (au (dv 4) (au (jL aJ) aJ))))) (gn 8 bK.nd) (b := d8) (aw (s_if (PW.pt (w_or (t_not (t_val (bF (x := "_law_right") F_l_right tk (hr.mono (by decide)) (by rfl) (au (dv 4) (au (dv 8) aJ))))) (w_or1 (t_not (t_val (bF (x := "_law_right") F_l_right tk (hr.mono (by decide)) (by rfl) (au (dv 2) (au (lO (dv 2) (jm aH) pW) aJ)))))))) (aw (s_ret d_bl)
    aZ) aZ)
    aZ))
    (aw (s_putN rfl (u65 hr) (dv 1) (jL (au (dv 4) (au (bF (x := "number_of") F_number_of tk (hr.mono (by decide)) (by rfl) (au (dv 4) (au (dv 7) aJ))) aJ))) (dv 7))
    (aw (s_if (fZ (o_ne hr.units) (d_ixN rfl (u65 hr) (dv 1) (jL (au (dv 4) (au (bF (x := "_law_due") F_l_due tk (hr.mono (by decide)) (by rfl) (au (dv 4) (au (dv 7) aJ))) aJ))) (fun _ _ => rfl)) (dv 7)) (aw (s_ret d_bl)
    aZ) aZ)
    (aw (sset 2 bK.nd (dv 4))
    aZ))))))))
    (aw (sset 4 bK.nd (jL (au eQ (au eQ (au eQ aJ)))))
    (aw (jt (own := [("_law_number", 9)]) rfl bK.nd (i := 5) rfl rfl (sw_true rfl rfl rfl (by decide +kernel)) (fu rfl T.b_range (au aH aJ)) (blkOk_by (N := jA) (sc := defScope cR) (by decide +kernel)) (gU (by decide)) (fun _ _ _ _ _ => (gn 9 bK.nd)) (fun _ _ _ _ _ => gq) (fun _ _ _ _ _ => (g8 qQ (by rfl) T.b_tuple g_ (au (fH (fj (own := [("_law_place", 11), ("_law_word", 10)]) rfl bK.nd (jc rfl T.b_enumerate (au (dv 4) aJ)) (blkOk_by (by rfl)) (hvs_T (by decide)) (fun _ _ _ _ _ => (g_tup rfl bK.nd (gc 11 (gc 10 .nil)))) (fun _ _ _ _ _ => (kY (fZ (uH hr.units) (aR o_and (aR o_shr (dv 9) (dv 11)) aH) aH))) (fun _ _ _ _ _ => (dv 10)))) aJ))))
    (aw (s_ret (vM (uH hr.units) (fH (fj (own := [("_law_leaves", 7)]) rfl bK.nd (jF (dv 5)) (blkOk_by (N := jA) (sc := defScope cR) (by decide +kernel)) (gU (by decide)) (fun _ _ _ _ _ => (gn 7 bK.nd)) (fun _ _ _ _ _ => gq) (fun _ _ _ _ _ => (bF (x := "number_of") F_number_of takes0 (hr.mono (by decide)) (by rfl) (au (dv 4) (au (dv 7) aJ)))))) (fH (uZ rfl rfl rfl T.b_list rfl rfl T.b_range aH))))
    aZ))))))
end
set_option maxHeartbeats 0 in
theorem all_mk {l : PySem.W.OpenLaw} [Wor] {K : PySem.W.Frag} {h : Heap} {mg : Str → Option Value} {fa : Addr} {xs : XS} (X : K.In h) (G : h.Ns mainGlobals mg) (hfa : mg "law" = some (.ref fa))
    {f0 : Addr} {od0 an0 : Option Addr} {sl0 : Array (Option Value)} {oc0 kV0 dc0 pm0 cd0 ct0 : Value}
    (a0 : PySem.W.nsIn K mainGlobals "_law_draw" = some (some (.ref f0))) (l0 : K.lookup f0 = some ⟨oc0, od0, .func (PySem.W.fnOf "_law_draw" "_law_draw" (defArgs eZ) (defBody eZ) (defScope eZ) .none kV0 dc0 pm0 an0 cd0 ct0), sl0⟩) (c0 : PySem.W.codeIn K cd0 "_law_draw" = true) (k0 : PySem.W.keepIn K (.ref f0) = true)
    {f1 : Addr} {od1 an1 : Option Addr} {sl1 : Array (Option Value)} {oc1 kV1 dc1 pm1 cd1 ct1 : Value}
    (a1 : PySem.W.nsIn K mainGlobals "_law_due" = some (some (.ref f1))) (l1 : K.lookup f1 = some ⟨oc1, od1, .func (PySem.W.fnOf "_law_due" "_law_due" (defArgs dh) (defBody dh) (defScope dh) .none kV1 dc1 pm1 an1 cd1 ct1), sl1⟩) (c1 : PySem.W.codeIn K cd1 "_law_due" = true) (k1 : PySem.W.keepIn K (.ref f1) = true)
    {f2 : Addr} {od2 an2 : Option Addr} {sl2 : Array (Option Value)} {oc2 kV2 dc2 pm2 cd2 ct2 : Value}
    (a2 : PySem.W.nsIn K mainGlobals "_law_hand" = some (some (.ref f2))) (l2 : K.lookup f2 = some ⟨oc2, od2, .func (PySem.W.fnOf "_law_hand" "_law_hand" (defArgs eY) (defBody eY) (defScope eY) .none kV2 dc2 pm2 an2 cd2 ct2), sl2⟩) (c2 : PySem.W.codeIn K cd2 "_law_hand" = true) (k2 : PySem.W.keepIn K (.ref f2) = true)
    {f3 : Addr} {od3 an3 : Option Addr} {sl3 : Array (Option Value)} {oc3 kV3 dc3 pm3 cd3 ct3 : Value}
    (a3 : PySem.W.nsIn K mainGlobals "number_of" = some (some (.ref f3))) (l3 : K.lookup f3 = some ⟨oc3, od3, .func (PySem.W.fnOf "number_of" "number_of" (defArgs cA) (defBody cA) (defScope cA) .none kV3 dc3 pm3 an3 cd3 ct3), sl3⟩) (c3 : PySem.W.codeIn K cd3 "number_of" = true) (k3 : PySem.W.keepIn K (.ref f3) = true)
    {f4 : Addr} {od4 an4 : Option Addr} {sl4 : Array (Option Value)} {oc4 kV4 dc4 pm4 cd4 ct4 : Value}
    (a4 : PySem.W.nsIn K mainGlobals "_law_right" = some (some (.ref f4))) (l4 : K.lookup f4 = some ⟨oc4, od4, .func (PySem.W.fnOf "_law_right" "_law_right" (defArgs bW) (defBody bW) (defScope bW) .none kV4 dc4 pm4 an4 cd4 ct4), sl4⟩) (c4 : PySem.W.codeIn K cd4 "_law_right" = true) (k4 : PySem.W.keepIn K (.ref f4) = true)
    {f5 : Addr} {od5 an5 : Option Addr} {sl5 : Array (Option Value)} {oc5 kV5 dc5 pm5 cd5 ct5 : Value}
    (a5 : PySem.W.nsIn K mainGlobals "_law_words" = some (some (.ref f5))) (l5 : K.lookup f5 = some ⟨oc5, od5, .func (PySem.W.fnOf "_law_words" "_law_words" (defArgs bV) (defBody bV) (defScope bV) .none kV5 dc5 pm5 an5 cd5 ct5), sl5⟩) (c5 : PySem.W.codeIn K cd5 "_law_words" = true) (k5 : PySem.W.keepIn K (.ref f5) = true)
    {f6 : Addr} {od6 an6 : Option Addr} {sl6 : Array (Option Value)} {oc6 kV6 dc6 pm6 cd6 ct6 : Value}
    (a6 : PySem.W.nsIn K mainGlobals "law" = some (some (.ref f6))) (l6 : K.lookup f6 = some ⟨oc6, od6, .func (PySem.W.fnOf "law" "law" (defArgs cR) (defBody cR) (defScope cR) .none kV6 dc6 pm6 an6 cd6 ct6), sl6⟩) (c6 : PySem.W.codeIn K cd6 "law" = true) (k6 : PySem.W.keepIn K (.ref f6) = true)
    (z_bool : PySem.W.nsIn K mainGlobals "bool" = some none)
    (z_enumerate : PySem.W.nsIn K mainGlobals "enumerate" = some none)
    (z_int : PySem.W.nsIn K mainGlobals "int" = some none)
    (z_isinstance : PySem.W.nsIn K mainGlobals "isinstance" = some none)
    (z_len : PySem.W.nsIn K mainGlobals "len" = some none)
    (z_list : PySem.W.nsIn K mainGlobals "list" = some none)
    (z_max : PySem.W.nsIn K mainGlobals "max" = some none)
    (z_min : PySem.W.nsIn K mainGlobals "min" = some none)
    (z_range : PySem.W.nsIn K mainGlobals "range" = some none)
    (z_sorted : PySem.W.nsIn K mainGlobals "sorted" = some none)
    (z_sum : PySem.W.nsIn K mainGlobals "sum" = some none)
    (z_tuple : PySem.W.nsIn K mainGlobals "tuple" = some none)
    : ∃ fd : FuncData, (∀ (s : Shared) (v : Value), BindsTo s fd ⟨[v], []⟩ [("_law_script", v)]) ∧ ∀ base : Heap, K.In base → base.Ns mainGlobals mg → FnOk l.prog Wor.w K mg base (L2.CX l.prog Wor.w) 3 fa fd [Str.ofString "_law_script"] (spD K xs 1 qF) := by
  have T : Tx K Wor.w mg := ⟨PySem.W.mg_none_of X G z_bool, PySem.W.mg_none_of X G z_enumerate, PySem.W.mg_none_of X G z_int, PySem.W.mg_none_of X G z_isinstance, PySem.W.mg_none_of X G z_len, PySem.W.mg_none_of X G z_list, PySem.W.mg_none_of X G z_max, PySem.W.mg_none_of X G z_min, PySem.W.mg_none_of X G z_range, PySem.W.mg_none_of X G z_sorted, PySem.W.mg_none_of X G z_sum, PySem.W.mg_none_of X G z_tuple⟩
  have e := hfa.symm.trans (PySem.W.mg_of X G a6)
  cases e
  have FL := fun_mk (st := cR) l6 c6 k6
  refine ⟨PySem.W.fnOf "law" "law" (defArgs cR) (defBody cR) (defScope cR) .none kV6 dc6 pm6 an6 cd6 ct6, fun s v => .of_eq rfl, fun base _ _ => ?_⟩
  have F_l_draw : Fn l.prog Wor.w K mg base xs "_law_draw" 1 2 aG := j_ X G a0 l0 c0 k0 iz (fun us hl => match us, hl with | [_, _], _ => rfl) rfl rfl (fun f fd F => rP T F)
  have F_l_due : Fn l.prog Wor.w K mg base xs "_law_due" 1 2 cQ := j_ X G a1 l1 c1 k1 dC (fun us hl => match us, hl with | [_, _], _ => rfl) rfl rfl (fun f fd F => uF T F)
  have F_l_hand : Fn l.prog Wor.w K mg base xs "_law_hand" 1 2 cI := j_ X G a2 l2 c2 k2 fQ (fun us hl => match us, hl with | [_, _], _ => rfl) rfl rfl (fun f fd F => rO T F)
  have F_number_of : Fn l.prog Wor.w K mg base xs "number_of" 1 2 aA := j_ X G a3 l3 c3 k3 cZ (fun us hl => match us, hl with | [_, _], _ => rfl) rfl rfl (fun f fd F => lC T F)
  have F_l_right : Fn l.prog Wor.w K mg base xs "_law_right" 2 2 cO := j_ X G a4 l4 c4 k4 bD (fun us hl => match us, hl with | [_, _], _ => rfl) rfl rfl (fun f fd F => oV T F_l_due F_number_of F)
  have F_l_words : Fn l.prog Wor.w K mg base xs "_law_words" 2 2 cC := j_ X G a5 l5 c5 k5 aU (fun us hl => match us, hl with | [_, _], _ => rfl) rfl rfl (fun f fd F => oR T F_l_draw F)
  exact ok_law T F_l_draw F_l_due F_l_hand F_l_right F_l_words F_number_of FL
end ao
namespace C
open PySem L2 D
noncomputable def fJ : DS := (aF (bh 2 (bin ix2 (bin bQ (slD (var 0) (soO (var 1)) (soO (bin bQ (var 1) (cst (.int 1))))) (aQ szL (aa (cst (.int 0)) az))) (cst (.int 0)))) (aF (bh 3 (bin mod2 (bin dN (bin bQ (bin bQ (bin mod2 (var 2) (cst (.int 2147483647))) (bin dN (cst (.int 7919)) (var 1))) (cst (.int 1))) (cst (.int 48271))) (cst (.int 2147483629)))) (aF (di (refL (szDL (aa (bin dN (aQ sG (aa (bin ge2 (var 2) (bin rK (cst (.int 10)) (cst (.int 18)))) az)) (var 2)) (aa (var 3) az))))) bL)))
noncomputable def cI : List U → Store → Rs U := runB 4 2 fJ
noncomputable def fK : DS := (aF (sIf (tst (bin gt2 (ixR (var 0) (cst (.int 0))) (cst (.int 0)))) (aF (bh 2 (bin mod2 (ixR (var 0) (cst (.int 0))) (var 1))) (aF (rF (var 0) (cst (.int 0)) (bin jd (ixR (var 0) (cst (.int 0))) (var 1))) (aF (di (var 2)) bL))) bL) (aF (rF (var 0) (cst (.int 1)) (bin mod2 (bin bQ (bin dN (ixR (var 0) (cst (.int 1))) (cst (.int 48271))) (cst (.int 11))) (cst (.int 2147483647)))) (aF (di (bin mod2 (bin jd (bin mod2 (bin dN (ixR (var 0) (cst (.int 1))) (ixR (var 0) (cst (.int 1)))) (cst (.int 2147483629))) (cst (.int 64))) (var 1))) bL)))
noncomputable def aG : List U → Store → Rs U := runB 3 2 fK
noncomputable def jO (ob : Ob) : Prop := ∃ a b : Int, ob = .lst [.int a, .int b] ∧ 0 ≤ a ∧ 0 ≤ b ∧ b < 2147483647
theorem draw_ok (n : Nat) (m : Int) (hm : 0 < m) (hm2 : m < 1073741824) (st : Store) (ob : Ob) (h : st[n]? = some ob) (ho : jO ob) :
    ∃ r ob', aG [.ref n, .int m] st = .ok (.int r) (st.set n ob') ∧ 0 ≤ r ∧ r < m ∧ jO ob' := by
  obtain ⟨a, b, rfl, ha, hb, hb2⟩ := ho
  have hn : n < st.length := (List.getElem?_eq_some_iff.mp h).1
  have gs : ∀ ob : Ob, (st.set n ob)[n]? = some ob := fun ob => List.getElem?_set_self hn
  clear hn
  have i0 : ixN 2 0 = some 0 := rfl
  have i1 : ixN 2 1 = some 1 := rfl
  have a0 : ∀ x y : U, atI [x, y] 0 = some x := fun _ _ => rfl
  have a1 : ∀ x y : U, atI [x, y] 1 = some y := fun _ _ => rfl
  have hmo : ∀ x : Int, mod2 (.int x) (.int m) = some (.int (x % m)) := fun x => by
    show (if _ then _ else _) = _
    rw [if_pos hm]
  have hfd : jd (.int a) (.int m) = some (.int (a / m)) := by
    show (if _ then _ else _) = _
    rw [if_pos ⟨hm, hm2⟩]
  unfold aG fK
  by_cases q : 0 < a
  · refine ⟨a % m, .lst [.int (a / m), .int b], ?_, Int.emod_nonneg _ (by omega), Int.emod_lt_of_pos _ hm, a / m, b, rfl, Int.ediv_nonneg ha (by omega), hb, hb2⟩
    simp [h, a0, q, hmo, hfd, i0]
  · obtain ⟨c, hc⟩ : ∃ c, c = (b * 48271 + 11) % 2147483647 := ⟨_, rfl⟩
    have c0 : 0 ≤ c := by rw [hc]; exact Int.emod_nonneg _ (by decide)
    have c1 : c < 2147483647 := by rw [hc]; exact Int.emod_lt_of_pos _ (by decide)
    have s1 : bJ b = true := by unfold bJ; simp; omega
    have s2 : bJ c = true := by unfold bJ; simp; omega
    refine ⟨c * c % 2147483629 / 64 % m, .lst [.int a, .int c], ?_, Int.emod_nonneg _ (by omega), Int.emod_lt_of_pos _ hm, a, c, rfl, ha, c0, c1⟩
    simp [h, a0, a1, q, hmo, i1, s1, ← hc, s2, gs]
theorem uh : rK (.int 10) (.int 18) = some (.int 1000000000000000000) := by simp [rK]
theorem hand_ok (ns : List Int) (k : Nat) (hk : k ≤ 1000000) (st : Store) : ∃ ob, cI [.scr ns, .int (k : Int)] st = .ok (.ref st.length) (st ++ [ob]) ∧ jO ob := by
  obtain ⟨c, hc⟩ : ∃ c : Int, c = ((ns.drop k).take 1 ++ [0]).headD 0 := ⟨_, rfl⟩
  obtain ⟨sd, hsd⟩ : ∃ s : Int, s = (c % 2147483647 + 7919 * (k : Int) + 1) * 48271 % 2147483629 := ⟨_, rfl⟩
  refine ⟨.lst [.int (if 1000000000000000000 ≤ c then c else 0), .int sd], ?_, _, _, rfl, ?_, by rw [hsd]; exact Int.emod_nonneg _ (by decide), by rw [hsd]; have := Int.emod_lt_of_pos ((c % 2147483647 + 7919 * (k : Int) + 1) * 48271) (show (0 : Int) < 2147483629 by decide); omega⟩
  · obtain ⟨X, hX⟩ : ∃ X, X = (ns.drop k).take 1 := ⟨_, rfl⟩
    have lX : X.length ≤ 1 := by rw [hX, List.length_take]; omega
    have cm : bx ns (some (k : Int)) (some ((k : Int) + 1)) = X := by
      have e : ((k : Int) + 1) = ((k + 1 : Nat) : Int) := rfl
      rw [e, sJ, hX]
      congr 1
      omega
    have ad : bQ (.lst (X.map U.int)) (.lst [.int 0]) = some (.lst (X.map U.int ++ [.int 0])) := by
      show (if _ then _ else _) = _
      rw [if_pos (by rw [sizeLine_eq, List.length_map]; simp; omega)]
    have ix : ix2 (.lst (X.map U.int ++ [.int 0])) (.int 0) = some (.int c) := by
      rw [hc, ← hX]
      cases X with
      | nil => rfl
      | cons x t => simp
    have s1 : bJ (c % 2147483647 + 7919 * (k : Int) + 1) = true := by
      have a1 := Int.emod_nonneg c (show (2147483647 : Int) ≠ 0 by decide)
      have a2 := Int.emod_lt_of_pos c (show (0 : Int) < 2147483647 by decide)
      unfold bJ
      simp
      omega
    have s2 : bJ (k : Int) = true := by unfold bJ; simp; omega
    have s0 : bJ 1 = true := by decide
    have s3 : bJ 0 = true := by decide
    unfold cI fJ
    generalize hA : U.lst (X.map U.int) = A at *
    by_cases q : 1000000000000000000 ≤ c
    · simp [cm, hA, ad, ix, uh, s1, s2, ← hsd, q, s0, -nY]
    · simp [cm, hA, ad, ix, uh, s1, s2, ← hsd, q, s3, -nY]
  · split <;> omega
end C
namespace G1
open PySem L2 D C
noncomputable def lmS : List Str := [Str.ofString "ask", Str.ofString "b", Str.ofString "gate", Str.ofString "open", Str.ofString "pay", Str.ofString "w", Str.ofString "x", Str.ofString "zz"]
structure Hd where
  name : Str
  own : List Str
  params : List Str
noncomputable def Hd.u (h : Hd) : U := .tup [.str h.name, tS h.own, tS h.params]
noncomputable def preOk : Row → Bool
  | .skip a k => aC a && decide (0 ≤ k)
  | .over k => decide (0 ≤ k)
  | .ask w k => aC w && decide (0 ≤ k)
  | r => r.ok
noncomputable def Pre (r : Row) : Prop := preOk r = true ∧ ∀ w ∈ r.leaves, w ∈ lmS
noncomputable def Steps (o : Rs U) (st : Store) : Prop := ∃ rows : List Row, o = .ok (.lst (rows.map Row.u)) st ∧ 1 ≤ rows.length ∧ rows.length ≤ 2 ∧ ∀ r ∈ rows, Pre r
theorem Steps.one {o : Rs U} {st : Store} (r : Row) (h : o = .ok (.lst [r.u]) st) (hp : Pre r) : Steps o st := ⟨[r], h, by simp, by simp, fun x hx => by rw [List.mem_singleton] at hx; subst hx; exact hp⟩
noncomputable def put (behind : Nat) (r : Row) : Row := match r with
  | .skip a k => if behind = 0 then .on else .skip a (1 + k % (min behind 3 : Nat))
  | .over k => if behind = 0 then .on else .over (1 + k % (min behind 3 : Nat))
  | .ask w k => if behind = 0 then .on else .ask w (1 + k % (min behind 3 : Nat))
  | r => r
end G1
namespace G2
open PySem L2 D C
structure fL (n : Nat) (st st' : Store) : Prop where
  len : st'.length = st.length
  oth : ∀ m, m ≠ n → st'[m]? = st[m]?
  hand : ∃ ob, st'[n]? = some ob ∧ jO ob
noncomputable def Hs (n : Nat) (st : Store) : Prop := ∃ ob, st[n]? = some ob ∧ jO ob
theorem fL.refl {n : Nat} {st : Store} (h : Hs n st) : fL n st st := ⟨rfl, fun _ _ => rfl, h⟩
theorem fL.hs {n : Nat} {st st' : Store} (k : fL n st st') : Hs n st' := k.hand
theorem fL.trans {n : Nat} {st st1 st2 : Store} (a : fL n st st1) (b : fL n st1 st2) : fL n st st2 := ⟨by rw [b.len, a.len], fun m h => by rw [b.oth m h, a.oth m h], b.hand⟩
noncomputable def Dr {A : Type} (n : Nat) (st : Store) (P : A → Prop) (r : Rs A) : Prop := ∃ a st', r = .ok a st' ∧ fL n st st' ∧ P a
section
variable {A B : Type} {n : Nat} {st : Store}
theorem Dr.ok {P : A → Prop} {a : A} (h : Hs n st) (p : P a) : Dr n st P (.ok a st) := ⟨a, st, rfl, .refl h, p⟩
theorem Dr.of {P : A → Prop} {r : Rs A} {a : A} (h : Hs n st) (e : r = .ok a st) (p : P a) : Dr n st P r := by rw [e]; exact .ok h p
theorem Dr.imp {P Q : A → Prop} {r : Rs A} (d : Dr n st P r) (h : ∀ a, P a → Q a) : Dr n st Q r := let ⟨a, s, e, k, p⟩ := d; ⟨a, s, e, k, h a p⟩
theorem Dr.pre {P : A → Prop} {r : Rs A} {st0 : Store} (k : fL n st0 st) (d : Dr n st P r) : Dr n st0 P r := let ⟨a, s, e, k2, p⟩ := d; ⟨a, s, e, k.trans k2, p⟩
theorem Dr.bind {P : A → Prop} {Q : B → Prop} {r : Rs A} {k : A → Store → Rs B} (d : Dr n st P r) (h : ∀ a st', fL n st st' → P a → Dr n st' Q (k a st')) : Dr n st Q (r.bind k) := by
  obtain ⟨a, s, rfl, k1, p⟩ := d
  exact (h a s k1 p).pre k1
theorem Dr.out {P : A → Prop} {Q : U → Prop} {r : Rs A} {env : D.Env} {k : A → Store → Out} {rest : DS} (d : Dr n st P r) (h : ∀ a st', fL n st st' → P a → Dr n st' Q (fin ((k a st').seq rest))) : Dr n st Q (fin ((r.out env k).seq rest)) := by
  obtain ⟨a, s, rfl, k1, p⟩ := d
  exact (h a s k1 p).pre k1
end
section
variable {n : Nat} {st : Store} {env : D.Env} {P : U → Prop}
theorem draw (h : Hs n st) {m : Int} (hm : 0 < m) (hm2 : m < 1073741824) : Dr n st (fun u => ∃ r : Nat, u = .int (r : Int) ∧ (r : Int) < m) (aG [.ref n, .int m] st) := by
  obtain ⟨ob, e, ho⟩ := h
  obtain ⟨r, ob', e1, h0, h1, ho'⟩ := draw_ok n m hm hm2 st ob e ho
  obtain ⟨k, rfl⟩ := Int.eq_ofNat_of_zero_le h0
  have hn : n < st.length := (List.getElem?_eq_some_iff.mp e).1
  exact ⟨_, _, e1, ⟨List.length_set .., fun m h => List.getElem?_set_ne (Ne.symm h), ob', List.getElem?_set_self hn, ho'⟩, k, rfl, h1⟩
noncomputable def DrE (n : Nat) (st : Store) (env : D.Env) (P : U → Prop) (e : DE) : Prop := Dr n st P (e env st)
theorem e_of {u : U} {e : DE} (h : Hs n st) (q : e env st = .ok u st) (p : P u) : DrE n st env P e := Dr.of h q p
theorem lN {v : DE} {m : Int} (h : Hs n st) (h0 : ∀ st', var 0 env st' = .ok (.ref n) st') (hv : ∀ st', v env st' = .ok (.int m) st') (hm : 0 < m) (hm2 : m < 1073741824) : DrE n st env (fun u => ∃ r : Nat, u = .int (r : Int) ∧ (r : Int) < m) (bo aG (aa (var 0) (aa v az))) := by
  show Dr n st _ (bo aG (aa (var 0) (aa v az)) env st)
  simp only [appU_ap, vU, anil_ap, h0, hv, fU]
  exact draw h hm hm2
theorem e_bin {Q R : U → Prop} {g : U → U → Option U} {a b : DE} (ha : DrE n st env Q a) (hb : ∀ u st', fL n st st' → Q u → DrE n st' env R b) (hg : ∀ u v, Q u → R v → ∃ w, g u v = some w ∧ P w) : DrE n st env P (bin g a b) := by
  show Dr n st P (bin g a b env st)
  rw [pD]
  refine Dr.bind ha fun u s1 k1 q => Dr.bind (hb u s1 k1 q) fun v s2 k2 r => ?_
  obtain ⟨w, e, p⟩ := hg u v q r
  rw [e]
  exact .ok k2.hs p
noncomputable def DrF (n : Nat) (st : Store) (env : D.Env) (P : U → Prop) (s : DS) : Prop := Dr n st P (fin (s env st))
theorem vB {Q : U → Prop} {i : Nat} {f : DE} {rest : DS} (h : DrE n st env Q f) (k : ∀ u st', fL n st st' → Q u → DrF n st' (env.set i (.val u)) P rest) : DrF n st env P (aF (bh i f) rest) := by
  show Dr n st P (fin (aF (bh i f) rest env st))
  rw [jk, sSet_ap]
  exact Dr.out h fun u s1 k1 q => k u s1 k1 q
theorem f_ret {f : DE} {rest : DS} (h : DrE n st env P f) : DrF n st env P (aF (di f) rest) := by
  show Dr n st P (fin (aF (di f) rest env st))
  rw [jk, sRet_ap]
  exact Dr.out h fun u s1 k1 q => .ok k1.hs q
theorem f_ifB {c : DT} {f rest : DS} (hc : Dr n st (fun _ : Bool => True) (c env st)) (k : ∀ b st', fL n st st' → c env st = .ok b st' → if b = true then ∃ u s, f env st' = .rt u s ∧ fL n st' s ∧ P u else DrF n st' env P rest) : DrF n st env P (aF (sIf c f bL) rest) := by
  obtain ⟨b, s1, e, k1, _⟩ := hc
  have h := k b s1 k1 e
  show Dr n st P (fin (aF (sIf c f bL) rest env st))
  rw [jk, sIf_ap, e, out_ok]
  cases b with
  | true =>
    rw [if_pos rfl] at h ⊢
    obtain ⟨u, s2, e2, k2, p⟩ := h
    rw [e2]
    exact ⟨u, s2, rfl, k1.trans k2, p⟩
  | false =>
    rw [if_neg Bool.false_ne_true] at h ⊢
    exact Dr.pre k1 h
end
theorem nM {T : Type} {n : Nat} {t : Tg} {c : DT} {e : DE} {env : D.Env} {f : T → U} : ∀ (l : List T) (st : Store), Hs n st → (∀ x ∈ l, ∃ a, t (f x) = some a ∧ (∀ st, Hs n st → Dr n st (fun _ => True) (c (bf env a) st)) ∧ ∀ st, e (bf env a) st = .ok (f x) st) → Dr n st (fun us => ∃ r : List T, r.Sublist l ∧ us = r.map f) (bu t c e (l.map f) env st)
  | [], st, h, _ => Dr.of h (vN ..) ⟨[], List.Sublist.refl _, rfl⟩
  | x :: l, st, h, hs => by
    obtain ⟨a, e1, e2, e3⟩ := hs x (List.mem_cons_self ..)
    rw [List.map_cons, iK, e1]
    simp only
    refine Dr.bind (e2 st h) fun b s1 k1 _ => ?_
    have ih := nM l s1 k1.hs fun y hy => hs y (List.mem_cons_of_mem _ hy)
    cases b with
    | true =>
      simp only [if_true, e3, fU]
      exact Dr.bind ih fun us s2 k2 ⟨r, q1, q2⟩ => .ok k2.hs ⟨x :: r, q1.cons₂ x, by rw [q2]; rfl⟩
    | false =>
      simp only [Bool.false_eq_true, if_false]
      exact ih.imp fun us ⟨r, q1, q2⟩ => ⟨r, q1.cons x, q2⟩
end G2
namespace C
open PySem L2 D
theorem str_ix (s : Str) (k : Nat) (h : k < s.length) (hz : s.length ≤ 16777216) : ix2 (.str s) (.int (k : Int)) = some (.str ⟨#[s.cps.getD k 0]⟩) := by
  have hk : k < s.cps.size := h
  show (if s.length ≤ sizeLine then (atI s.cps.toList (k : Int)).map fun c => U.str ⟨#[c]⟩ else none) = _
  rw [if_pos (by rw [aD]; exact hz), ig]
  simp [hk, Array.getD]
end C
namespace G2
open PySem L2 D C
noncomputable def dw : DS := (aF (bh 2 (cst (.str (Str.ofString "abcdefghijklmnopqrstuvwxyz")))) (aF (bh 3 (bo aG (aa (var 0) (aa (cst (.int 26)) az)))) (aF (sIf (tst (bin eq2 (bo aG (aa (var 0) (aa (cst (.int 3)) az))) (cst (.int 0)))) (aF (bh 5 (qp (cst (.str (Str.ofString ""))) (bO (bG (itA fX (aa (cst (.int 8)) az)) [7] (tgN 7) dG (bin ix2 (var 2) (bin mod2 (bin bQ (var 3) (bin dN (cst (.int 5)) (var 7))) (cst (.int 26)))))))) (aF (di (bO (bG (itA fX (aa (var 1) az)) [6] (tgN 6) dG (slD (var 5) noO (soO (bin bQ (cst (.int 1)) (var 6))))))) bL)) bL) (aF (bh 4 (bin ix2 (aQ szL (aa (cst (.str (Str.ofString ""))) (aa (cst (.str (Str.ofString "o"))) (aa (cst (.str (Str.ofString "mine"))) (aa (cst (.str (Str.ofString "zzzzzzz"))) az))))) (bo aG (aa (var 0) (aa (cst (.int 4)) az))))) (aF (di (bO (bG (itA fX (aa (var 1) az)) [6] (tgN 6) dG (bin bQ (bin ix2 (var 2) (bin mod2 (bin bQ (var 3) (bin dN (cst (.int 3)) (var 6))) (cst (.int 26)))) (var 4))))) bL)))))
noncomputable def cC : List U → Store → Rs U := runB 8 2 dw
noncomputable def abc : Str := Str.ofString "abcdefghijklmnopqrstuvwxyz"
noncomputable def ch (i : Nat) : Str := ⟨#[97 + i]⟩
theorem abc_get : ∀ k < 26, abc.cps.getD k 0 = 97 + k := by decide +kernel
theorem abc_at (k : Nat) (h : k < 26) : ix2 (.str abc) (.int (k : Int)) = some (.str (ch k)) := by
  rw [str_ix abc k (Nat.lt_of_lt_of_le h (by decide +kernel)) (by decide +kernel), abc_get k h]
  rfl
theorem ql : ∀ i < 26, 97 + i ∈ letters := by decide +kernel
theorem k_ {x y : Str} (h : x.cps.toList = y.cps.toList) : x = y := by
  obtain ⟨⟨a⟩⟩ := x
  obtain ⟨⟨b⟩⟩ := y
  have h : a = b := h
  rw [h]
noncomputable def wA (f : Nat) : List Nat := (List.range 8).map fun j => 97 + (f + 5 * j) % 26
noncomputable def fY (f k : Nat) : Str := ⟨((wA f).take (1 + k)).toArray⟩
noncomputable def iV (f : Nat) (tail : Str) (k : Nat) : Str := ch ((f + 3 * k) % 26) ++ tail
theorem i_ (l : List Nat) (h1 : 1 ≤ l.length) (h2 : l.length ≤ 8) (h3 : ∀ c ∈ l, c ∈ letters) : aC ⟨l.toArray⟩ = true := by
  unfold aC
  have e : (⟨l.toArray⟩ : Str).length = l.length := by simp [Str.length]
  rw [e, decide_eq_true h1, decide_eq_true h2]
  simp only [Bool.true_and, List.all_eq_true]
  intro c hc
  exact decide_eq_true (h3 c (by simpa using hc))
theorem iy (f : Nat) : (wA f).length = 8 := by unfold wA; simp
theorem wA_let (f : Nat) : ∀ c ∈ wA f, c ∈ letters := fun c hc => by
  unfold wA at hc
  obtain ⟨j, _, rfl⟩ := List.mem_map.mp hc
  exact ql _ (Nat.mod_lt _ (by decide))
theorem sX (f k : Nat) (hk : k < 8) : aC (fY f k) = true := by
  refine i_ _ ?_ ?_ fun c hc => wA_let f c (List.mem_of_mem_take hc)
  · rw [List.length_take, iy]; omega
  · rw [List.length_take, iy]; omega
theorem jW (f k : Nat) (hk : k < 8) : (fY f k).length = 1 + k := by
  show ((wA f).take (1 + k)).toArray.size = _
  rw [List.size_toArray, List.length_take, iy]; omega
noncomputable def tails : List Str := [Str.ofString "", Str.ofString "o", Str.ofString "mine", Str.ofString "zzzzzzz"]
theorem mj : ∀ t ∈ tails, t.cps.toList.length ≤ 7 ∧ ∀ c ∈ t.cps.toList, c ∈ letters := by decide +kernel
theorem dZ (f k : Nat) (t : Str) : iV f t k = ⟨((97 + (f + 3 * k) % 26) :: t.cps.toList).toArray⟩ := by
  apply k_
  show (ch _ ++ t).cps.toList = _
  have := TL.tl_append (ch ((f + 3 * k) % 26)) t
  exact this
theorem sV (f k : Nat) (t : Str) (ht : t ∈ tails) : aC (iV f t k) = true := by
  rw [dZ]
  obtain ⟨h1, h2⟩ := mj t ht
  refine i_ _ (by simp) (by simp only [List.length_cons]; omega) fun c hc => ?_
  rcases List.mem_cons.mp hc with rfl | hc
  · exact ql _ (Nat.mod_lt _ (by decide))
  · exact h2 c hc
structure WOk (m : Nat) (ws : List Str) : Prop where
  len : ws.length = m
  nd : ws.Nodup
  word : ∀ w ∈ ws, aC w = true
  nz : Str.ofString "zz" ∉ ws
theorem pF : (Str.ofString "zz").cps.toList = [122, 122] := by decide +kernel
theorem sY (f k : Nat) (hk : k < 8) : fY f k ≠ Str.ofString "zz" := fun e => by
  have h := congrArg (fun s : Str => s.cps.toList) e
  have h := h.trans pF
  have h : (wA f).take (1 + k) = [122, 122] := h
  have hl := congrArg List.length h
  rw [List.length_take, iy] at hl
  have hk1 : k = 1 := by simp at hl; omega
  subst hk1
  have h0 : (wA f).take 2 = [97 + (f + 5 * 0) % 26, 97 + (f + 5 * 1) % 26] := rfl
  rw [show 1 + 1 = 2 from rfl, h0] at h
  simp only [List.cons.injEq, and_true] at h
  omega
theorem tQ : ∀ t ∈ tails, t.cps.toList ≠ [122] := by decide +kernel
theorem sW (f k : Nat) (t : Str) (ht : t ∈ tails) : iV f t k ≠ Str.ofString "zz" := fun e => by
  rw [dZ] at e
  have h := congrArg (fun s : Str => s.cps.toList) e
  have h := h.trans pF
  have h : (97 + (f + 3 * k) % 26) :: t.cps.toList = [122, 122] := h
  simp only [List.cons.injEq] at h
  exact tQ t ht h.2
theorem iG {A B : Type} {f : A → B} : ∀ {l : List A}, l.Nodup → (∀ a ∈ l, ∀ b ∈ l, f a = f b → a = b) → (l.map f).Nodup
  | [], _, _ => List.nodup_nil
  | a :: l, nd, h => by
    rw [List.nodup_cons] at nd
    rw [List.map_cons, List.nodup_cons]
    refine ⟨fun z => ?_, iG nd.2 fun x hx y hy => h x (List.mem_cons_of_mem _ hx) y (List.mem_cons_of_mem _ hy)⟩
    obtain ⟨b, hb, e⟩ := List.mem_map.mp z
    have := h b (List.mem_cons_of_mem _ hb) a (List.mem_cons_self ..) e
    subst this
    exact nd.1 hb
theorem qX (f m : Nat) (hm : m ≤ 8) : WOk m ((List.range m).map (fY f)) := by
  refine ⟨by simp, iG List.nodup_range fun a ha b hb e => ?_, fun w hw => ?_, ?_⟩
  · have ha := List.mem_range.mp ha
    have hb := List.mem_range.mp hb
    have := congrArg Str.length e
    rw [jW f a (by omega), jW f b (by omega)] at this
    omega
  · obtain ⟨k, hk, rfl⟩ := List.mem_map.mp hw
    exact sX f k (by have := List.mem_range.mp hk; omega)
  · intro z
    obtain ⟨k, hk, e⟩ := List.mem_map.mp z
    exact sY f k (by have := List.mem_range.mp hk; omega) e
theorem qW (f m : Nat) (hm : m ≤ 8) (t : Str) (ht : t ∈ tails) : WOk m ((List.range m).map (iV f t)) := by
  refine ⟨by simp, iG List.nodup_range fun a ha b hb e => ?_, fun w hw => ?_, ?_⟩
  · have ha := List.mem_range.mp ha
    have hb := List.mem_range.mp hb
    rw [dZ, dZ] at e
    have e2 := congrArg (fun s : Str => s.cps.toList.head?) e
    simp only [List.head?_cons, Option.some.injEq] at e2
    omega
  · obtain ⟨k, hk, rfl⟩ := List.mem_map.mp hw
    exact sV f k t ht
  · intro z
    obtain ⟨k, hk, e⟩ := List.mem_map.mp z
    exact sW f k t ht e
theorem t_draw {n : Nat} {st : Store} {env : D.Env} {m z : Int} (h : Hs n st) (h0 : ∀ st', var 0 env st' = .ok (.ref n) st') (hm : 0 < m) (hm2 : m < 1073741824) : Dr n st (fun _ : Bool => True) (tst (bin eq2 (bo aG (aa (var 0) (aa (cst (.int m)) az))) (cst (.int z))) env st) := by
  rw [tO, pD]
  have d := lN (n := n) (env := env) (v := cst (.int m)) h h0 (fun st' => lU _ _ _) hm hm2
  refine Dr.bind (P := fun u => ∃ b : Bool, u = .bl b) (Dr.bind d fun u s k q => ?_) fun u s k q => ?_
  · obtain ⟨r, rfl, _⟩ := q
    simp only [lU, fU]
    exact Dr.of k.hs (show Rs.of (eq2 (.int (r : Int)) (.int z)) s = .ok (.bl (decide ((r : Int) = z))) s by simp) ⟨_, rfl⟩
  · obtain ⟨b, rfl⟩ := q
    exact .ok k.hs trivial
set_option maxHeartbeats 4000000 in
theorem sS (n m : Nat) (hm : m ≤ 8) (st : Store) (h : Hs n st) : Dr n st (fun u => ∃ ws, u = lS ws ∧ WOk m ws) (cC [.ref n, .int (m : Int)] st) := by
  have rm := gM m (by omega)
  have r8 : fX [U.int 8] = some ((List.range 8).map fun i => U.int (i : Nat)) := gM 8 (by decide)
  have sm5 : bJ 5 = true := jZ (by decide) (by decide)
  have sm3 : bJ 3 = true := jZ (by decide) (by decide)
  show DrF n st [.val (.ref n), .val (.int (m : Int)), .un, .un, .un, .un, .un, .un] _ dw
  unfold dw
  refine vB (Q := fun u => u = .str abc) (e_of h (lU _ _ _) rfl) fun u s1 k1 e => ?_
  subst e
  simp only [List.set_cons_succ, List.set_cons_zero]
  refine vB (lN k1.hs (fun _ => rfl) (fun _ => rfl) (by decide) (by decide)) fun u s2 k2 e => ?_
  obtain ⟨f, rfl, hf⟩ := e
  simp only [List.set_cons_succ, List.set_cons_zero]
  have atL : ∀ x : Nat, ix2 (.str abc) (.int ((x % 26 : Nat) : Int)) = some (.str (ch (x % 26))) := fun x => abc_at _ (Nat.mod_lt _ (by decide))
  refine f_ifB (t_draw k2.hs (fun _ => rfl) (by decide) (by decide)) fun b s3 k3 _ => ?_
  cases b with
  | true =>
    rw [if_pos rfl]
    have c8 : bu (tgN 7) dG (bin ix2 (var 2) (bin mod2 (bin bQ (var 3) (bin dN (cst (.int 5)) (var 7))) (cst (.int 26)))) ((List.range 8).map fun i => U.int (i : Nat)) [.val (.ref n), .val (.int (m : Int)), .val (.str abc), .val (.int (f : Int)), .un, .un, .un, .un] s3 = .ok (((List.range 8).map fun j => ch ((f + 5 * j) % 26)).map U.str) s3 := by
      rw [List.map_map]
      exact cD (List.range 8) fun j hj => ⟨_, rfl, by
        have := atL (f + 5 * j)
        rw [show (((f + 5 * j) % 26 : Nat) : Int) = ((f : Int) + 5 * (j : Int)) % 26 by omega] at this
        generalize U.str abc = AA at *
        simp [sm5, this]⟩
    have jn : m_ (Str.ofString "") (.lst (((List.range 8).map fun j => ch ((f + 5 * j) % 26)).map U.str)) = some (.str ⟨(wA f).toArray⟩) := by
      unfold m_
      show (bB (((List.range 8).map fun j => ch ((f + 5 * j) % 26)).map U.str)).bind _ = _
      rw [strs_map]
      have e1 : Txt.join (Str.ofString "") ((List.range 8).map fun j => ch ((f + 5 * j) % 26)) = ⟨(wA f).toArray⟩ := by
        apply k_
        rw [TL.join_eq]
        have := TL.tl_join (Str.ofString "") ((List.range 8).map fun j => ch ((f + 5 * j) % 26))
        exact this
      have hz : ((((List.range 8).map fun j => ch ((f + 5 * j) % 26)).map (·.length)).sum + ((List.range 8).map fun j => ch ((f + 5 * j) % 26)).length * (Str.ofString "").length ≤ 16777216) := by
        have : (((List.range 8).map fun j => ch ((f + 5 * j) % 26)).map (·.length)).sum = 8 := rfl
        rw [this, List.length_map, List.length_range]
        decide +kernel
      simp only [Option.bind_some, e1, if_pos hz]
    have cm : ∀ s4 : Store, bu (tgN 6) dG (slD (var 5) noO (soO (bin bQ (cst (.int 1)) (var 6)))) ((List.range m).map fun i => U.int (i : Nat)) [.val (.ref n), .val (.int (m : Int)), .val (.str abc), .val (.int (f : Int)), .un, .val (.str ⟨(wA f).toArray⟩), .un, .un] s4 = .ok (((List.range m).map (fY f)).map U.str) s4 := fun s4 => by
      rw [List.map_map]
      exact cD (List.range m) fun j hj => ⟨_, rfl, by
        have hj := List.mem_range.mp hj
        have hl : (⟨(wA f).toArray⟩ : Str).length = 8 := by show (wA f).toArray.size = 8; rw [List.size_toArray, iy]
        have hc : cutS ⟨(wA f).toArray⟩ none (some (1 + (j : Int))) = fY f j := by
          apply k_
          have := lQ (wA f) (1 + j)
          rw [show ((1 + j : Nat) : Int) = 1 + (j : Int) by omega] at this
          unfold bx at this
          unfold cutS
          rw [hl]
          rw [iy] at this
          simpa [fY] using this
        have hl' : (⟨(wA f).toArray⟩ : Str).length ≤ 16777216 := by rw [hl]; decide
        generalize (⟨(wA f).toArray⟩ : Str) = WW at *
        simp [hl', hc]⟩
    refine ⟨lS ((List.range m).map (fY f)), s3, ?_, .refl k3.hs, _, rfl, qX f m hm⟩
    have hmz : m ≤ 16777216 := by omega
    generalize hRM : ((List.range m).map fun i => U.int (i : Nat)) = RM at *
    generalize hR8 : ((List.range 8).map fun i => U.int (i : Nat)) = R8 at *
    generalize hL : (((List.range 8).map fun j => ch ((f + 5 * j) % 26)).map U.str) = L8 at *
    generalize hLm : ((List.range m).map (fY f)).map U.str = LM at *
    have lm : RM.length ≤ 16777216 := by rw [← hRM, List.length_map, List.length_range]; omega
    have l8 : R8.length ≤ 16777216 := by rw [← hR8, List.length_map, List.length_range]; decide
    generalize (⟨(wA f).toArray⟩ : Str) = WW at *
    have hS : lS ((List.range m).map (fY f)) = .lst LM := by rw [← hLm]
    rw [hS]
    generalize Str.ofString "" = EE at *
    simp [r8, rm, lm, l8, bR, c8, jn, cm]
  | false =>
    rw [if_neg Bool.false_ne_true]
    refine vB (Q := fun u => ∃ t ∈ tails, u = .str t) (e_bin (Q := fun u => u = .lst (tails.map U.str)) (e_of k3.hs (by rfl) rfl) (fun u s k _ => lN k.hs (fun _ => rfl) (fun _ => rfl) (by decide) (by decide)) fun u v hu hv => ?_) fun u s4 k4 e => ?_
    · subst hu
      obtain ⟨r, rfl, hr⟩ := hv
      obtain ⟨t, ht, e⟩ := pick tails (r : Int) (by omega) hr
      exact ⟨.str t, qT U.str e, t, ht, rfl⟩
    · obtain ⟨t, ht, rfl⟩ := e
      simp only [List.set_cons_succ, List.set_cons_zero]
      have cm : bu (tgN 6) dG (bin bQ (bin ix2 (var 2) (bin mod2 (bin bQ (var 3) (bin dN (cst (.int 3)) (var 6))) (cst (.int 26)))) (var 4)) ((List.range m).map fun i => U.int (i : Nat)) [.val (.ref n), .val (.int (m : Int)), .val (.str abc), .val (.int (f : Int)), .val (.str t), .un, .un, .un] s4 = .ok (((List.range m).map (iV f t)).map U.str) s4 := by
        rw [List.map_map]
        exact cD (List.range m) fun j hj => ⟨_, rfl, by
          have := atL (f + 3 * j)
          rw [show (((f + 3 * j) % 26 : Nat) : Int) = ((f : Int) + 3 * (j : Int)) % 26 by omega] at this
          have hl : (ch ((f + 3 * j) % 26)).length + t.length ≤ 16777216 := by
            have h1 : (ch ((f + 3 * j) % 26)).length = 1 := rfl
            have h2 := (mj t ht).1
            have h3 : t.length = t.cps.toList.length := by simp [Str.length]
            omega
          generalize U.str abc = AA at *
          simp [sm3, this, hl, iV]⟩
      refine f_ret (e_of k4.hs ?_ ⟨_, rfl, qW f m hm t ht⟩)
      have lm : ((List.range m).map fun i => U.int (i : Nat)).length ≤ 16777216 := by rw [List.length_map, List.length_range]; omega
      generalize ((List.range m).map fun i => U.int (i : Nat)) = RM at *
      generalize hLm : ((List.range m).map (iV f t)).map U.str = LM at *
      have hS : lS ((List.range m).map (iV f t)) = .lst LM := by rw [← hLm]
      rw [hS]
      simp [rm, lm, bR, cm]
theorem qD {T : Type} {t : Tg} {b : DS} {f : T → U} (I : List T → D.Env → Store → Prop) : ∀ (l : List T) (env : D.Env) (st : Store), I l env st → (∀ x r env st, x ∈ l → I (x :: r) env st → ∃ a env' st', t (f x) = some a ∧ b (bf env a) st = .nx env' st' ∧ I r env' st') → ∃ env' st', forL t b (l.map f) env st = .nx env' st' ∧ I [] env' st'
  | [], env, st, h, _ => ⟨env, st, rfl, h⟩
  | x :: l, env, st, h, step => by
    obtain ⟨a, env1, st1, h1, h2, h3⟩ := step x l env st (List.mem_cons_self ..) h
    obtain ⟨env2, st2, e, q⟩ := qD I l env1 st1 h3 fun y r env st hy => step y r env st (List.mem_cons_of_mem _ hy)
    exact ⟨env2, st2, by rw [List.map_cons, fB, h1]; simp only [h2]; exact e, q⟩
structure Hd where
  name : Str
  own : List Str
  params : List Str
noncomputable def Hd.u (h : Hd) : U := .tup [.str h.name, tS h.own, tS h.params]
structure Kit where
  heads : List Hd
  roster : List Str
  pool : List Str
noncomputable def Kit.u (k : Kit) : U := .tup [.lst (k.heads.map Hd.u), lS k.roster, lS k.pool]
end G2
namespace R
open PySem L2 D C
@[simp] theorem is_ref_non (n : Nat) : is2 (.ref n) .non = some (.bl false) := (rfl)
@[simp] theorem isnot_ref_non (n : Nat) : dF (.ref n) .non = some (.bl true) := (rfl)
noncomputable def VsOk (l : List (Str × U)) : Prop := ∀ p ∈ l, valU 4 p.2 = true
theorem cJ.len {st : Store} : ∀ {fs : List (Nat × Nat)} {frs : List Fm}, cJ st fs frs → fs.length = frs.length
  | [], [], _ => rfl
  | _ :: _, _ :: _, h => by rw [List.length_cons, List.length_cons, cJ.len h.2.2]
  | [], _ :: _, h => h.elim
  | _ :: _, [], h => h.elim
end R
namespace Q
open PySem D
noncomputable def nmL : List Str := [Str.ofString "Frame", Str.ofString "Hand", Str.ofString "Melt", Str.ofString "Walk", Str.ofString "Run", Str.ofString "pieces", Str.ofString "base", Str.ofString "left", Str.ofString "shelf", Str.ofString "told_events", Str.ofString "ended", Str.ofString "frames", Str.ofString "deepest", Str.ofString "papers", Str.ofString "needs_now", Str.ofString "stops_now", Str.ofString "piece", Str.ofString "locals_now", Str.ofString "at", Str.ofString "waits", Str.ofString "vouch", Str.ofString "set_now", Str.ofString "top", Str.ofString "enter", Str.ofString "place", Str.ofString "stop", Str.ofString "go_on", Str.ofString "done", Str.ofString "asked", Str.ofString "ends_with", Str.ofString "use_call", Str.ofString "why_not", Str.ofString "call", Str.ofString "ask", Str.ofString "row_done", Str.ofString "go", Str.ofString "give", Str.ofString "value", Str.ofString "paper_of", Str.ofString "set", Str.ofString "same", Str.ofString "sum", Str.ofString "less", Str.ofString "hold", Str.ofString "last", Str.ofString "keep", Str.ofString "kept", Str.ofString "skip", Str.ofString "over", Str.ofString "on", Str.ofString "count", Str.ofString "deed", Str.ofString "gives", Str.ofString "spent", Str.ofString "stuck", Str.ofString "refused", Str.ofString "number", Str.ofString "nobody", Str.ofString "many", Str.ofString "function", Str.ofString "great", Str.ofString "deep", Str.ofString "held", Str.ofString "lacks", Str.ofString "fun", Str.ofString "me", Str.ofString "other", Str.ofString "x", Str.ofString "f", Str.ofString "yy", Str.ofString "a", Str.ofString "abcdefgh", Str.ofString "c", Str.ofString "kk", Str.ofString "none", Str.ofString "w", Str.ofString "PlainRun", Str.ofString "meet", Str.ofString "join", Str.ofString "has", Str.ofString "told", Str.ofString "bits"]
theorem nmN : nmL.Nodup := by decide +kernel
class Lx (a : String) (i : outParam Nat) : Prop where
  h : nmL[i]? = some (Str.ofString a)
instance : Lx "Frame" 0 := ⟨rfl⟩
instance : Lx "Hand" 1 := ⟨rfl⟩
instance : Lx "Melt" 2 := ⟨rfl⟩
instance : Lx "Walk" 3 := ⟨rfl⟩
instance : Lx "Run" 4 := ⟨rfl⟩
instance : Lx "pieces" 5 := ⟨rfl⟩
instance : Lx "base" 6 := ⟨rfl⟩
instance : Lx "left" 7 := ⟨rfl⟩
instance : Lx "shelf" 8 := ⟨rfl⟩
instance : Lx "told_events" 9 := ⟨rfl⟩
instance : Lx "ended" 10 := ⟨rfl⟩
instance : Lx "frames" 11 := ⟨rfl⟩
instance : Lx "deepest" 12 := ⟨rfl⟩
instance : Lx "papers" 13 := ⟨rfl⟩
instance : Lx "needs_now" 14 := ⟨rfl⟩
instance : Lx "stops_now" 15 := ⟨rfl⟩
instance : Lx "piece" 16 := ⟨rfl⟩
instance : Lx "locals_now" 17 := ⟨rfl⟩
instance : Lx "at" 18 := ⟨rfl⟩
instance : Lx "waits" 19 := ⟨rfl⟩
instance : Lx "vouch" 20 := ⟨rfl⟩
instance : Lx "set_now" 21 := ⟨rfl⟩
instance : Lx "top" 22 := ⟨rfl⟩
instance : Lx "enter" 23 := ⟨rfl⟩
instance : Lx "place" 24 := ⟨rfl⟩
instance : Lx "stop" 25 := ⟨rfl⟩
instance : Lx "go_on" 26 := ⟨rfl⟩
instance : Lx "done" 27 := ⟨rfl⟩
instance : Lx "asked" 28 := ⟨rfl⟩
instance : Lx "ends_with" 29 := ⟨rfl⟩
instance : Lx "use_call" 30 := ⟨rfl⟩
instance : Lx "why_not" 31 := ⟨rfl⟩
instance : Lx "call" 32 := ⟨rfl⟩
instance : Lx "ask" 33 := ⟨rfl⟩
instance : Lx "row_done" 34 := ⟨rfl⟩
instance : Lx "go" 35 := ⟨rfl⟩
instance : Lx "give" 36 := ⟨rfl⟩
instance : Lx "value" 37 := ⟨rfl⟩
instance : Lx "paper_of" 38 := ⟨rfl⟩
instance : Lx "set" 39 := ⟨rfl⟩
instance : Lx "same" 40 := ⟨rfl⟩
instance : Lx "sum" 41 := ⟨rfl⟩
instance : Lx "less" 42 := ⟨rfl⟩
instance : Lx "hold" 43 := ⟨rfl⟩
instance : Lx "last" 44 := ⟨rfl⟩
instance : Lx "keep" 45 := ⟨rfl⟩
instance : Lx "kept" 46 := ⟨rfl⟩
instance : Lx "skip" 47 := ⟨rfl⟩
instance : Lx "over" 48 := ⟨rfl⟩
instance : Lx "on" 49 := ⟨rfl⟩
instance : Lx "count" 50 := ⟨rfl⟩
instance : Lx "deed" 51 := ⟨rfl⟩
instance : Lx "gives" 52 := ⟨rfl⟩
instance : Lx "spent" 53 := ⟨rfl⟩
instance : Lx "stuck" 54 := ⟨rfl⟩
instance : Lx "refused" 55 := ⟨rfl⟩
instance : Lx "number" 56 := ⟨rfl⟩
instance : Lx "nobody" 57 := ⟨rfl⟩
instance : Lx "many" 58 := ⟨rfl⟩
instance : Lx "function" 59 := ⟨rfl⟩
instance : Lx "great" 60 := ⟨rfl⟩
instance : Lx "deep" 61 := ⟨rfl⟩
instance : Lx "held" 62 := ⟨rfl⟩
instance : Lx "lacks" 63 := ⟨rfl⟩
instance : Lx "fun" 64 := ⟨rfl⟩
instance : Lx "me" 65 := ⟨rfl⟩
instance : Lx "other" 66 := ⟨rfl⟩
instance : Lx "x" 67 := ⟨rfl⟩
instance : Lx "f" 68 := ⟨rfl⟩
instance : Lx "yy" 69 := ⟨rfl⟩
instance : Lx "a" 70 := ⟨rfl⟩
instance : Lx "abcdefgh" 71 := ⟨rfl⟩
instance : Lx "c" 72 := ⟨rfl⟩
instance : Lx "kk" 73 := ⟨rfl⟩
instance : Lx "none" 74 := ⟨rfl⟩
instance : Lx "w" 75 := ⟨rfl⟩
instance : Lx "PlainRun" 76 := ⟨rfl⟩
instance : Lx "meet" 77 := ⟨rfl⟩
instance : Lx "join" 78 := ⟨rfl⟩
instance : Lx "has" 79 := ⟨rfl⟩
instance : Lx "told" 80 := ⟨rfl⟩
instance : Lx "bits" 81 := ⟨rfl⟩
theorem bU {a b : String} {i j : Nat} [x : Lx a i] [y : Lx b j] : (Str.ofString a = Str.ofString b) = (i = j) := by
  refine propext ⟨fun h => ?_, fun h => ?_⟩
  · have e1 := x.h
    have e2 := y.h
    rw [← h] at e2
    obtain ⟨l1, g1⟩ := List.getElem?_eq_some_iff.mp e1
    obtain ⟨l2, g2⟩ := List.getElem?_eq_some_iff.mp e2
    rcases Nat.lt_trichotomy i j with q | q | q
    · exact absurd (g1.trans g2.symm) (List.pairwise_iff_getElem.mp nmN i j l1 l2 q)
    · exact q
    · exact absurd (g2.trans g1.symm) (List.pairwise_iff_getElem.mp nmN j i l2 l1 q)
  · subst h
    have e1 := x.h
    rw [y.h] at e1
    exact (Option.some.inj e1).symm
theorem ak {a b : String} {i j : Nat} [x : Lx a i] [y : Lx b j] : (Str.ofString a == Str.ofString b) = (i == j) := by
  have h : (Str.ofString a = Str.ofString b) = (i = j) := bU
  by_cases q : i = j
  · rw [beq_iff_eq.mpr (h.mpr q), beq_iff_eq.mpr q]
  · rw [beq_eq_false_iff_ne.mpr fun z => q (h.mp z), beq_eq_false_iff_ne.mpr q]
end Q
namespace Q
open PySem L2 D C R
inductive Row where
  | set (x : Str) (n : Int) | same (x a : Str) | sum (x a b : Str) | less (x a b : Str) | hold (x n : Str) (as : List Str)
  | call (x f : Str) (as : List Str) | last (f : Str) (as : List Str) | give (a : Str) | keep (c a : Str) | kept (x c : Str)
  | skip (a : Str) (k : Int) | over (k : Int) | on | count | done (w a : Str)
  | meet (x a : Str) (n : Int) | join (x a : Str) (n : Int) | has (a : Str) (n k : Int) | told (w : Str) (b : Bool) | stop (w : Str)
noncomputable def Row.u : Row → U
  | .set x n => .tup [.str (Str.ofString "set"), .str x, .int n]
  | .same x a => .tup [.str (Str.ofString "same"), .str x, .str a]
  | .sum x a b => .tup [.str (Str.ofString "sum"), .str x, .str a, .str b]
  | .less x a b => .tup [.str (Str.ofString "less"), .str x, .str a, .str b]
  | .hold x n as => .tup [.str (Str.ofString "hold"), .str x, .str n, tS as]
  | .call x f as => .tup [.str (Str.ofString "call"), .str x, .str f, tS as]
  | .last f as => .tup [.str (Str.ofString "last"), .str f, tS as]
  | .give a => .tup [.str (Str.ofString "give"), .str a]
  | .keep c a => .tup [.str (Str.ofString "keep"), .str c, .str a]
  | .kept x c => .tup [.str (Str.ofString "kept"), .str x, .str c]
  | .skip a k => .tup [.str (Str.ofString "skip"), .str a, .int k]
  | .over k => .tup [.str (Str.ofString "over"), .int k]
  | .on => .tup [.str (Str.ofString "on")]
  | .count => .tup [.str (Str.ofString "count")]
  | .done w a => .tup [.str (Str.ofString "done"), .str w, .str a]
  | .meet x a n => .tup [.str (Str.ofString "meet"), .str x, .str a, .int n]
  | .join x a n => .tup [.str (Str.ofString "join"), .str x, .str a, .int n]
  | .has a n k => .tup [.str (Str.ofString "has"), .str a, .int n, .int k]
  | .told w b => .tup [.str (Str.ofString "told"), .str w, .bl b]
  | .stop w => .tup [.str (Str.ofString "stop"), .str w]
structure Piece where
  name : Str
  params : List Str
  rows : List Row
noncomputable def Piece.p (q : Piece) : U := .tup [.str q.name, tS q.params, .tup (q.rows.map Row.u)]
noncomputable def Piece.u (q : Piece) : U := .tup [.str q.name, .tup [], tS q.params, .tup (q.rows.map Row.u)]
noncomputable def nQ (b : List Piece) : U := .lst (b.map Piece.u)
inductive Way where | plain
  deriving DecidableEq
noncomputable def Way.cls : Way → Str
  | .plain => Str.ofString "PlainRun"
structure Fm where
  pc : Piece
  loc : List (Str × U)
  pos : Nat
  waits : Option Str
structure Rn where
  bk : List Piece
  left : Nat
  shelf : List (Str × U)
  evs : List U
  ended : Option U
  frames : List Fm
  deepest : Nat
structure Ly where
  m : Nat
  sh : Nat
  ev : Nat
  fl : Nat
  p : Nat
  q : Nat
  fs : List (Nat × Nat)
noncomputable def aN (f : Fm) (b : Nat) : List (Str × U) := [(Str.ofString "piece", f.pc.u), (Str.ofString "locals_now", .ref b), (Str.ofString "at", .int f.pos), (Str.ofString "waits", oS f.waits), (Str.ofString "vouch", .tup []), (Str.ofString "set_now", .tup [])]
noncomputable def core (L : Ly) (S : Rn) : List (Str × U) := [(Str.ofString "pieces", nQ S.bk), (Str.ofString "base", .tup []), (Str.ofString "left", .int S.left), (Str.ofString "shelf", .ref L.sh), (Str.ofString "told_events", .ref L.ev), (Str.ofString "ended", oU S.ended), (Str.ofString "frames", .ref L.fl), (Str.ofString "deepest", .int S.deepest)]
noncomputable def aj (w : Way) (L : Ly) (S : Rn) : List (Str × U) := match w with
  | .plain => core L S
noncomputable def xs (w : Way) (L : Ly) : List Nat := match w with
  | .plain => []
noncomputable def adr (w : Way) (L : Ly) : List Nat := L.m :: L.sh :: L.ev :: L.fl :: (xs w L ++ flat L.fs)
noncomputable def cJ (st : Store) : List (Nat × Nat) → List Fm → Prop
  | [], [] => True
  | (a, b) :: r, f :: fs => st[a]? = some (.obj (Str.ofString "Frame") (aN f b)) ∧ st[b]? = some (d_ (kv f.loc)) ∧ cJ st r fs
  | _, _ => False
noncomputable def iU (w : Way) (st : Store) (L : Ly) (S : Rn) : Prop := match w with
  | .plain => True
structure Rep (w : Way) (s0 : Store) (L : Ly) (st : Store) (S : Rn) : Prop where
  ob : st[L.m]? = some (.obj w.cls (aj w L S))
  sh : st[L.sh]? = some (d_ (kv S.shelf))
  ev : st[L.ev]? = some (.lst S.evs)
  fl : st[L.fl]? = some (.lst (L.fs.map fun p => U.ref p.1).reverse)
  xp : iU w st L S
  fr : cJ st L.fs S.frames
  nd : (adr w L).Nodup
  lo : ∀ i ∈ adr w L, s0.length ≤ i ∧ i < st.length
  pre : ∀ i, i < s0.length → st[i]? = s0[i]?
theorem cJ.eq {st st' : Store} : ∀ {fs : List (Nat × Nat)} {frs : List Fm}, cJ st fs frs → (∀ i ∈ flat fs, st'[i]? = st[i]?) → cJ st' fs frs
  | [], [], _, _ => trivial
  | (a, b) :: r, f :: fs, ⟨h1, h2, h3⟩, h => ⟨by rw [h a (by simp [flat]), h1], by rw [h b (by simp [flat]), h2], h3.eq fun i hi => h i (by simp [flat, hi])⟩
  | [], _ :: _, h, _ => h.elim
  | _ :: _, [], h, _ => h.elim
theorem Rep.upd {w : Way} {s0 st : Store} {L : Ly} {S S' : Rn} (h : Rep w s0 L st S) {i : Nat} {x : Ob} (hi : i ∈ adr w L)
    (ob : (st.set i x)[L.m]? = some (.obj w.cls (aj w L S'))) (sh : (st.set i x)[L.sh]? = some (d_ (kv S'.shelf))) (ev : (st.set i x)[L.ev]? = some (.lst S'.evs))
    (fl : (st.set i x)[L.fl]? = some (.lst (L.fs.map fun p => U.ref p.1).reverse)) (xp : iU w (st.set i x) L S') (fr : cJ (st.set i x) L.fs S'.frames) : Rep w s0 L (st.set i x) S' where
  ob := ob
  sh := sh
  ev := ev
  fl := fl
  xp := xp
  fr := fr
  nd := h.nd
  lo := fun j hj => by rw [List.length_set]; exact h.lo j hj
  pre := fun j hj => by rw [dI (fun e => by have := (h.lo i hi).1; omega)]; exact h.pre j hj
theorem Rep.dis {w : Way} {s0 st : Store} {L : Ly} {S : Rn} (h : Rep w s0 L st S) : L.m ≠ L.sh ∧ L.m ≠ L.ev ∧ L.m ≠ L.fl ∧ L.sh ≠ L.ev ∧ L.sh ≠ L.fl ∧ L.ev ≠ L.fl ∧ (∀ i ∈ xs w L ++ flat L.fs, L.m ≠ i ∧ L.sh ≠ i ∧ L.ev ≠ i ∧ L.fl ≠ i) ∧ (xs w L).Nodup ∧ (flat L.fs).Nodup ∧ ∀ i ∈ xs w L, ∀ j ∈ flat L.fs, i ≠ j := by
  have n := h.nd
  unfold adr at n
  simp only [List.nodup_cons, List.mem_cons, not_or] at n
  obtain ⟨⟨a1, a2, a3, a4⟩, ⟨b1, b2, b3⟩, ⟨c1, c2⟩, d1, d2⟩ := n
  rw [List.nodup_append] at d2
  refine ⟨a1, a2, a3, b1, b2, c1, fun i hi => ⟨?_, ?_, ?_, ?_⟩, d2.1, d2.2.1, d2.2.2⟩
  · exact fun e => a4 (e ▸ hi)
  · exact fun e => b3 (e ▸ hi)
  · exact fun e => c2 (e ▸ hi)
  · exact fun e => d1 (e ▸ hi)
theorem iU.eq {w : Way} {st st' : Store} {L : Ly} {S S' : Rn} (h : iU w st L S) (e : ∀ i ∈ xs w L, st'[i]? = st[i]?) : iU w st' L S' := by
  cases w
  trivial
section
variable {w : Way} {s0 st : Store} {L : Ly} {S : Rn}
theorem Rep.push (h : Rep w s0 L st S) (f : Fm) :
    Rep w s0 {L with fs := (st.length, st.length + 1) :: L.fs} ((st ++ [.obj (Str.ofString "Frame") (aN f (st.length + 1)), d_ (kv f.loc)]).set L.fl (.lst ((L.fs.map fun p => U.ref p.1).reverse ++ [.ref st.length]))) {S with frames := f :: S.frames} := by
  obtain ⟨d1, d2, d3, d4, d5, d6, dx, -, dn, dy⟩ := h.dis
  have hx : xs w {L with fs := (st.length, st.length + 1) :: L.fs} = xs w L := by cases w <;> rfl
  have lt : ∀ i ∈ adr w L, i < st.length := fun i hi => (h.lo i hi).2
  have lfl : L.fl < st.length := lt _ (by simp [adr])
  have g : ∀ i ∈ adr w L, i ≠ L.fl → ((st ++ [.obj (Str.ofString "Frame") (aN f (st.length + 1)), d_ (kv f.loc)]).set L.fl (.lst ((L.fs.map fun p => U.ref p.1).reverse ++ [.ref st.length])))[i]? = st[i]? := fun i hi q => by
    rw [dI q, iT (lt i hi)]
  have mem : ∀ i, i ∈ xs w L ++ flat L.fs → i ∈ adr w L := fun i hi => by simp only [adr, List.mem_cons]; exact .inr (.inr (.inr (.inr hi)))
  exact {
    ob := by rw [g _ (by simp [adr]) d3, h.ob]; cases w <;> rfl
    sh := by rw [g _ (by simp [adr]) d5, h.sh]
    ev := by rw [g _ (by simp [adr]) d6, h.ev]
    fl := by
      rw [tY (y := .lst (L.fs.map fun p => U.ref p.1).reverse) (by rw [iT lfl, h.fl])]
      simp
    xp := by
      cases w
      trivial
    fr := by
      refine ⟨?_, ?_, h.fr.eq fun i hi => g i (mem i (by simp [hi])) (Ne.symm (dx i (by simp [hi])).2.2.2)⟩
      · rw [dI (by omega)]; simp
      · rw [dI (by omega)]; simp
    nd := by
      have n := h.nd
      have l := lt
      have y : ∀ i ∈ adr w L, i ≠ st.length ∧ i ≠ st.length + 1 := fun i hi => by have := lt i hi; omega
      unfold adr at n y ⊢
      rw [hx]
      simp only [flat, List.nodup_cons, List.mem_cons, List.mem_append, not_or, List.nodup_append] at n y ⊢
      obtain ⟨⟨a1, a2, a3, a4, a5⟩, ⟨b1, b2, b3, b4⟩, ⟨c1, c2, c3⟩, ⟨e1, e2⟩, n1, n2, n3⟩ := n
      refine ⟨⟨a1, a2, a3, a4, ?_, ?_, a5⟩, ⟨b1, b2, b3, ?_, ?_, b4⟩, ⟨c1, c2, ?_, ?_, c3⟩, ⟨e1, ?_, ?_, e2⟩, n1, ⟨⟨by omega, fun z => ?_⟩, fun z => ?_, n2⟩, fun i hi j hj => ?_⟩
      · exact (y _ (by simp)).1
      · exact (y _ (by simp)).2
      · exact (y _ (by simp)).1
      · exact (y _ (by simp)).2
      · exact (y _ (by simp)).1
      · exact (y _ (by simp)).2
      · exact (y _ (by simp)).1
      · exact (y _ (by simp)).2
      · exact (y _ (by simp [z])).1 rfl
      · exact (y _ (by simp [z])).2 rfl
      · rcases hj with rfl | rfl | hj
        · exact (y _ (by simp [hi])).1
        · exact (y _ (by simp [hi])).2
        · exact n3 i hi j hj
    lo := fun i hi => by
      have y : i ∈ adr w L ∨ i = st.length ∨ i = st.length + 1 := by
        simp only [adr, hx, flat, List.mem_cons, List.mem_append] at hi ⊢
        rcases hi with q | q | q | q | q | q | q | q <;> simp [q]
      rw [List.length_set, List.length_append]
      have z := (h.lo L.fl (by simp [adr])).1
      rcases y with y | y | y
      · have := h.lo i y; simp only [List.length_cons, List.length_nil]; omega
      · simp; omega
      · simp; omega
    pre := fun i hi => by
      have z := (h.lo L.fl (by simp [adr]))
      rw [dI (by omega), iT (by omega)]; exact h.pre i hi }
end
section
variable {w : Way} {s0 st : Store} {L : Ly} {S : Rn} {f : Fm} {b : Nat}
@[simp] theorem vp : (aj w L S).lookup (Str.ofString "pieces") = some (nQ S.bk) := by cases w <;> simp [aj, core, List.lookup, ak]
@[simp] theorem g_base : (aj w L S).lookup (Str.ofString "base") = some (.tup []) := by cases w <;> simp [aj, core, List.lookup, ak]
@[simp] theorem g_left : (aj w L S).lookup (Str.ofString "left") = some (.int S.left) := by cases w <;> simp [aj, core, List.lookup, ak]
@[simp] theorem g_shelf : (aj w L S).lookup (Str.ofString "shelf") = some (.ref L.sh) := by cases w <;> simp [aj, core, List.lookup, ak]
@[simp] theorem jU : (aj w L S).lookup (Str.ofString "told_events") = some (.ref L.ev) := by cases w <;> simp [aj, core, List.lookup, ak]
@[simp] theorem g_ended : (aj w L S).lookup (Str.ofString "ended") = some (oU S.ended) := by cases w <;> simp [aj, core, List.lookup, ak]
@[simp] theorem vq : (aj w L S).lookup (Str.ofString "frames") = some (.ref L.fl) := by cases w <;> simp [aj, core, List.lookup, ak]
@[simp] theorem sH : (aj w L S).lookup (Str.ofString "deepest") = some (.int S.deepest) := by cases w <;> simp [aj, core, List.lookup, ak]
@[simp] theorem n_top : (aj w L S).lookup (Str.ofString "top") = none := by cases w <;> simp [aj, core, List.lookup, ak]
@[simp] theorem n_enter : (aj w L S).lookup (Str.ofString "enter") = none := by cases w <;> simp [aj, core, List.lookup, ak]
@[simp] theorem n_place : (aj w L S).lookup (Str.ofString "place") = none := by cases w <;> simp [aj, core, List.lookup, ak]
@[simp] theorem n_stop : (aj w L S).lookup (Str.ofString "stop") = none := by cases w <;> simp [aj, core, List.lookup, ak]
@[simp] theorem n_go_on : (aj w L S).lookup (Str.ofString "go_on") = none := by cases w <;> simp [aj, core, List.lookup, ak]
@[simp] theorem n_done : (aj w L S).lookup (Str.ofString "done") = none := by cases w <;> simp [aj, core, List.lookup, ak]
@[simp] theorem n_asked : (aj w L S).lookup (Str.ofString "asked") = none := by cases w <;> simp [aj, core, List.lookup, ak]
@[simp] theorem mZ : (aj w L S).lookup (Str.ofString "ends_with") = none := by cases w <;> simp [aj, core, List.lookup, ak]
@[simp] theorem oX : (aj w L S).lookup (Str.ofString "use_call") = none := by cases w <;> simp [aj, core, List.lookup, ak]
@[simp] theorem rW : (aj w L S).lookup (Str.ofString "why_not") = none := by cases w <;> simp [aj, core, List.lookup, ak]
@[simp] theorem n_call : (aj w L S).lookup (Str.ofString "call") = none := by cases w <;> simp [aj, core, List.lookup, ak]
@[simp] theorem n_ask : (aj w L S).lookup (Str.ofString "ask") = none := by cases w <;> simp [aj, core, List.lookup, ak]
@[simp] theorem oY : (aj w L S).lookup (Str.ofString "row_done") = none := by cases w <;> simp [aj, core, List.lookup, ak]
@[simp] theorem n_go : (aj w L S).lookup (Str.ofString "go") = none := by cases w <;> simp [aj, core, List.lookup, ak]
@[simp] theorem n_give : (aj w L S).lookup (Str.ofString "give") = none := by cases w <;> simp [aj, core, List.lookup, ak]
@[simp] theorem n_value : (aj w L S).lookup (Str.ofString "value") = none := by cases w <;> simp [aj, core, List.lookup, ak]
@[simp] theorem n_bits : (aj w L S).lookup (Str.ofString "bits") = none := by cases w <;> simp [aj, core, List.lookup, ak]
@[simp] theorem n_has : (aj w L S).lookup (Str.ofString "has") = none := by cases w <;> simp [aj, core, List.lookup, ak]
@[simp] theorem nf_give : (aN f b).lookup (Str.ofString "give") = none := by simp [aN, List.lookup, ak]
@[simp] theorem uN : (aN f b).lookup (Str.ofString "value") = none := by simp [aN, List.lookup, ak]
@[simp] theorem vo : (aN f b).lookup (Str.ofString "piece") = some (f.pc.u) := by simp [aN, List.lookup, ak]
@[simp] theorem jT : (aN f b).lookup (Str.ofString "locals_now") = some (.ref b) := by simp [aN, List.lookup, ak]
@[simp] theorem gf_at : (aN f b).lookup (Str.ofString "at") = some (.int f.pos) := by simp [aN, List.lookup, ak]
@[simp] theorem vh : (aN f b).lookup (Str.ofString "waits") = some (oS f.waits) := by simp [aN, List.lookup, ak]
@[simp] theorem vm : (aN f b).lookup (Str.ofString "vouch") = some (.tup []) := by simp [aN, List.lookup, ak]
@[simp] theorem o7 : (aN f b).lookup (Str.ofString "set_now") = some (.tup []) := by simp [aN, List.lookup, ak]
@[simp] theorem pf_at (n : Nat) : cM (Str.ofString "at") (.int n) (aN f b) = aN {f with pos := n} b := by simp [aN, cM, bU]
@[simp] theorem uA (x : Str) : cM (Str.ofString "waits") (.str x) (aN f b) = aN {f with waits := some x} b := by simp [aN, cM, bU, oS]
@[simp] theorem rM : cM (Str.ofString "waits") .non (aN f b) = aN {f with waits := none} b := by simp [aN, cM, bU, oS]
@[simp] theorem p_left (n : Nat) : cM (Str.ofString "left") (.int n) (aj w L S) = aj w L {S with left := n} := by cases w <;> simp [aj, core, cM, bU]
@[simp] theorem rN (n : Nat) : cM (Str.ofString "deepest") (.int n) (aj w L S) = aj w L {S with deepest := n} := by cases w <;> simp [aj, core, cM, bU]
@[simp] theorem rG : (aj w L S).length < 1000 := by cases w <;> simp [aj, core]
@[simp] theorem vz : (aN f b).length < 1000 := by simp [aN]
@[simp] theorem cls_ne : ¬ (w.cls = Str.ofString "Frame") := by cases w <;> simp [Way.cls, bU]
end
noncomputable def Fm.val (f : Fm) (x : Str) : U := (getA f.loc x).getD (.int 0)
noncomputable def Fm.giv (f : Fm) (x : Str) (v : U) : Fm := {f with loc := ug f.loc x v}
noncomputable def Fm.on (f : Fm) (k : Nat) : Fm := {f with pos := f.pos + (1 + k)}
noncomputable def Rn.place (S : Rn) : List U := match S.frames with
  | f :: _ => [.str f.pc.name, .int f.pos]
  | [] => []
noncomputable def Rn.stop (S : Rn) (l : List U) : Rn := {S with ended := some (.tup (l ++ S.place))}
noncomputable def Rn.goOn (S : Rn) (k : Nat) : Rn := {S with frames := match S.frames with
  | f :: fs => f.on k :: fs
  | [] => []}
noncomputable def Rn.done (S : Rn) (x : Str) (v : U) : Rn := {S with evs := S.evs ++ [.tup ([.str (Str.ofString "deed"), .str x, v] ++ S.place)]}
noncomputable def arith (f : Fm) (x : Str) (op : Int → Int → Int) (u v : U) : Option Str × Fm := match u, v with
  | .int i, .int j => if okN (op i j) = true then (none, f.giv x (.int (op i j))) else (some (Str.ofString "great"), f)
  | _, _ => (some (Str.ofString "function"), f)
noncomputable def oM (f : Fm) (sh : List (Str × U)) : Row → Option Str × Fm × List (Str × U)
  | .set x n => (none, f.giv x (.int n), sh)
  | .same x a => (none, f.giv x (f.val a), sh)
  | .keep c a => (none, f, ug sh c (f.val a))
  | .kept x c => (none, f.giv x ((getA sh c).getD (.int 0)), sh)
  | .hold x n as => if 4 < vL 5 (fnU n (as.map f.val)) then (some (Str.ofString "deep"), f, sh) else (none, f.giv x (fnU n (as.map f.val)), sh)
  | .sum x a b => let q := arith f x (· + ·) (f.val a) (f.val b); (q.1, q.2, sh)
  | .less x a b => let q := arith f x (· - ·) (f.val a) (f.val b); (q.1, q.2, sh)
  | _ => (none, f, sh)
noncomputable def nA (bk : List Piece) (n : Str) : Option Piece := bk.find? fun p => decide (p.name = n)
noncomputable def nZ (bk : List Piece) (v : U) (k : Nat) : Option Str := match v with
  | .tup [_, .str n, .tup us] => match nA bk n with
    | none => some (Str.ofString "nobody")
    | some p => if us.length + k = p.params.length then none else some (Str.ofString "many")
  | _ => some (Str.ofString "number")
noncomputable def jR (p : Piece) (gv : List U) : Fm := ⟨p, zipA p.params gv, 0, none⟩
noncomputable def Rn.push (S : Rn) (f : Fm) : Rn := {S with frames := f :: S.frames, deepest := max S.deepest (S.frames.length + 1)}
noncomputable def Rn.enter (S : Rn) (p : Piece) (gv : List U) (c : Option Fm) : Rn := match c with
  | none => S.push (jR p gv)
  | some c => (if c.waits = none then {S with frames := S.frames.drop 1} else S).push (jR p gv)
noncomputable def Rn.use (S : Rn) (k : Rn → Rn) : Rn := match S.left with
  | 0 => S.stop [.str (Str.ofString "spent")]
  | n + 1 => k {S with left := n}
noncomputable def Rn.call (S : Rn) (f : Fm) (fs : List Fm) (x : Option Str) (g : Str) (as : List Str) : Rn := match nZ S.bk (f.val g) as.length with
  | some y => S.stop [.str (Str.ofString "stuck"), .str y]
  | none => S.use fun S => match f.val g with
    | .tup [_, .str n, .tup us] => match nA S.bk n with
      | some p =>
        let c := {f with waits := match x with | some y => some y | none => f.waits}
        ({S with frames := c :: fs} : Rn).enter p (us ++ as.map f.val) (some c)
      | none => S
    | _ => S
noncomputable def Rn.qK (S : Rn) (v : U) : Rn := match (S.frames.drop 1).dropWhile (fun f => f.waits.isNone) with
  | [] => {S with frames := [], ended := some (.tup [.str (Str.ofString "gives"), v])}
  | f :: r => {S with frames := ({f.giv (f.waits.getD (Str.ofString "")) v with waits := none} : Fm).on 0 :: r}
noncomputable def bitR (S : Rn) (f : Fm) (fs : List Fm) (x : Str) (v : U) (op : Int → Int) : Rn := match v with
  | .int i => ({S with frames := f.giv x (.int (op i)) :: fs} : Rn).goOn 0
  | _ => S.stop [.str (Str.ofString "stuck"), .str (Str.ofString "function")]
noncomputable def Rn.lA (S : Rn) (f : Fm) (fs : List Fm) : Row → Rn
  | .call x g as => S.call f fs (some x) g as
  | .last g as => S.call f fs none g as
  | .give a => S.qK (f.val a)
  | .done x a => (S.done x (f.val a)).goOn 0
  | .skip a k => S.goOn (if isZ (f.val a) = true then k.toNat else 0)
  | .over k => S.goOn k.toNat
  | .on => S.goOn 0
  | .count => S.use fun S => S.goOn 0
  | .meet x a n => bitR S f fs x (f.val a) fun i => Builtin.bitAnd i n
  | .join x a n => bitR S f fs x (f.val a) fun i => Builtin.bitOr i n
  | .has a n k => match f.val a with
    | .int i => S.goOn (if Builtin.bitAnd i n = 0 then k.toNat else 0)
    | _ => S.stop [.str (Str.ofString "stuck"), .str (Str.ofString "function")]
  | .told x b => ({S with evs := S.evs ++ [.tup ([.str (Str.ofString "ask"), .str x, .bl b] ++ S.place)]} : Rn).goOn 0
  | .stop x => S.stop [.str (Str.ofString "refused"), .str x]
  | r => match oM f S.shelf r with
    | (some y, _, _) => S.stop [.str (Str.ofString "stuck"), .str y]
    | (none, f', sh') => ({S with frames := f' :: fs, shelf := sh'} : Rn).goOn 0
noncomputable def Rn.step (S : Rn) : Rn := match S.frames with
  | [] => S
  | f :: fs => match f.pc.rows[f.pos]? with
    | none => S.qK (.int 0)
    | some r => S.lA f fs r
noncomputable def Rn.go : Nat → Rn → Rn
  | 0, S => S
  | n + 1, S => match S.ended with
    | some _ => S
    | none => Rn.go n S.step
noncomputable def oA (bk : List Piece) (calls : Nat) (cells : List (Str × U)) : Rn := ⟨bk, calls, cells, [], none, [], 0⟩
noncomputable def Rn.start (bk : List Piece) (p : Piece) (inp : List U) (calls : Nat) (cells : List (Str × U)) : Rn := (oA bk calls cells).enter p inp none
theorem cJ.len {st : Store} : ∀ {fs : List (Nat × Nat)} {frs : List Fm}, cJ st fs frs → fs.length = frs.length
  | [], [], _ => rfl
  | _ :: _, _ :: _, h => by rw [List.length_cons, List.length_cons, cJ.len h.2.2]
  | [], _ :: _, h => h.elim
  | _ :: _, [], h => h.elim
noncomputable def Row.ok : Row → Bool
  | .hold _ n as => aC n && decide (as.length ≤ 4)
  | .call _ _ as => decide (as.length ≤ 5)
  | .last _ as => decide (as.length ≤ 5)
  | .skip _ k => decide (0 ≤ k)
  | .over k => decide (0 ≤ k)
  | .has _ _ k => decide (0 ≤ k)
  | _ => true
noncomputable def numK (ws : List Str) : Nat → List Str → Nat
  | _, [] => 0
  | k, x :: r => (if x ∈ ws then 2 ^ k else 0) + numK ws (k + 1) r
noncomputable def numOf (ro ws : List Str) : Nat := numK ws 0 ro
end Q
namespace R4
open PySem L2 D
noncomputable def cX : DS := (aF (di (aQ tR (aa (bO (bG (itA bj (aa (var 0) az)) [2, 3] (tgT [2, 3]) (tst (bin in2 (var 3) (var 1))) (bin oF (cst (.int 1)) (var 2)))) az))) bL)
noncomputable def aA : List U → Store → Rs U := runB 4 2 cX
end R4
namespace R4
open PySem L2 D C R
end R4
namespace R
open PySem L2 D C
end R
namespace R4
open PySem L2 D C R
section
variable {bk : List Piece} {nm : Str} {p : Piece} {ins : List Int} {base : List Str} {calls : Nat} {cs : List (Str × U)}
noncomputable def Rn.run (w : Way) (bk : List Piece) (p : Piece) (ins : List Int) (base : List Str) (calls : Nat) (cs : List (Str × U)) : Rn := (Rn.start w bk p (ins.map U.int) base calls cs).go w WFUEL
end
end R4
namespace Q.M
open PySem L2 D C R R4
theorem uK (ro : List Str) : eV (ro.map U.str) = ro.zipIdx.map fun p => U.tup [.int (p.2 : Int), .str p.1] := by
  unfold eV
  apply List.ext_getElem?
  intro i
  simp only [List.getElem?_mapIdx, List.getElem?_map, List.getElem?_zipIdx]
  cases ro[i]? <;> simp
theorem pY (ws : List Str) : ∀ (ro : List Str) (k : Nat), (((ro.zipIdx k).filter fun p => decide (p.1 ∈ ws)).map fun p => ((2 ^ p.2 : Nat) : Int)).sum = (numK ws k ro : Int)
  | [], k => by simp [numK]
  | x :: r, k => by
    have ih := pY ws r (k + 1)
    rw [List.zipIdx_cons, List.filter_cons]
    unfold numK
    by_cases q : x ∈ ws
    · rw [if_pos (by simp [q]), if_pos q, List.map_cons, List.sum_cons, ih]
      simp
    · rw [if_neg (by simp [q]), if_neg q, ih]
      simp
theorem ints_map : ∀ (l : List Int), cV (l.map U.int) = some l
  | [] => rfl
  | i :: l => by
    rw [List.map_cons]
    unfold cV
    rw [ints_map l]
    rfl
theorem shl_one (k : Nat) (h : k ≤ 1000000) : oF (.int 1) (.int (k : Int)) = some (.int ((2 ^ k : Nat) : Int)) := by
  unfold oF
  have hk : (0 : Int) ≤ (k : Int) ∧ (k : Int) ≤ 1000000 ∧ (1 : Int).natAbs < 2 ^ 64 := ⟨by omega, by omega, by decide⟩
  simp only [if_pos hk, Int.one_mul, Int.toNat_natCast]
  norm_cast
theorem rQ (ro ws : List Str) (h : ro.length ≤ 1000) (st : Store) : aA [tS ro, tS ws] st = .ok (.int (numOf ro ws : Int)) st := by
  have hc := du (t := tgT [2, 3]) (q := tst (D.bin in2 (var 3) (var 1))) (e := D.bin oF (cst (.int 1)) (var 2)) (env := [.val (tS ro), .val (tS ws), .un, .un]) (st := st) (f := fun p : Str × Nat => U.tup [.int (p.2 : Int), .str p.1]) (g := fun p => U.int ((2 ^ p.2 : Nat) : Int)) (p := fun p => decide (p.1 ∈ ws)) ro.zipIdx (fun p hp => by
    have hlt : p.2 < ro.length := by
      obtain ⟨i, hi⟩ := List.getElem?_of_mem hp
      rw [List.getElem?_zipIdx] at hi
      cases q : ro[i]? with
      | none => rw [q] at hi; cases hi
      | some y =>
        rw [q] at hi
        cases hi
        have := (List.getElem?_eq_some_iff.mp q).1
        simpa using this
    have hs := shl_one p.2 (by omega)
    refine ⟨_, rfl, ?_, fun _ => ?_⟩
    · simp [bf]
    · simp [bf, hs])
  rw [← uK] at hc
  have hz : (eV (ro.map U.str)).length ≤ 16777216 := by unfold eV; rw [List.length_mapIdx, List.length_map]; omega
  have hsum : tR [.lst (((ro.zipIdx).filter fun p => decide (p.1 ∈ ws)).map fun p => U.int ((2 ^ p.2 : Nat) : Int))] = some (.int (numOf ro ws : Int)) := by
    have h1 := pY ws ro 0
    have h2 := ints_map (((ro.zipIdx).filter fun p => decide (p.1 ∈ ws)).map fun p => ((2 ^ p.2 : Nat) : Int))
    rw [List.map_map] at h2
    show (cV _).map (fun bs => U.int bs.sum) = _
    rw [show (fun p : Str × Nat => U.int ((2 ^ p.2 : Nat) : Int)) = U.int ∘ fun p => ((2 ^ p.2 : Nat) : Int) from rfl, h2]
    simp only [Option.map_some, h1]
    rfl
  obtain ⟨us, hus⟩ : ∃ us, us = (((ro.zipIdx).filter fun p => decide (p.1 ∈ ws)).map fun p => U.int ((2 ^ p.2 : Nat) : Int)) := ⟨_, rfl⟩
  rw [← hus] at hc hsum
  obtain ⟨ps, hps⟩ : ∃ ps, ps = eV (ro.map U.str) := ⟨_, rfl⟩
  have he : bj [tS ro] = some ps := by rw [hps]; rfl
  rw [← hps] at hc hz
  unfold aA cX
  simp [he, hz, bR, hc, hsum, fin]
end Q.M
namespace Q
open PySem L2 D C R
end Q
namespace R
open PySem L2 D C
noncomputable def Pl : Nat → U → Prop
  | 0, _ => False
  | n + 1, .tup us => ∀ u ∈ us, Pl n u
  | n + 1, .lst us => ∀ u ∈ us, Pl n u
  | n + 1, .dct ks us => ∃ l : List (Str × U), ks = (kv l).map (fun p => kU p.1) ∧ us = (kv l).map (·.2) ∧ (l.map (·.1)).Nodup ∧ ∀ p ∈ l, Pl n p.2
  | _ + 1, .non => True
  | _ + 1, .bl _ => True
  | _ + 1, .int _ => True
  | _ + 1, .str _ => True
  | _ + 1, _ => False
theorem Pl.mono : ∀ {n m : Nat} {u : U}, Pl n u → n ≤ m → Pl m u
  | 0, _, _, h, _ => h.elim
  | n + 1, m, u, h, hm => by
    obtain ⟨k, rfl⟩ : ∃ k, m = k + 1 := ⟨m - 1, by omega⟩
    cases u with
    | tup us => exact fun u hu => Pl.mono (h u hu) (by omega)
    | lst us => exact fun u hu => Pl.mono (h u hu) (by omega)
    | dct ks us =>
      obtain ⟨l, h1, h2, h3, h4⟩ := h
      exact ⟨l, h1, h2, h3, fun p hp => Pl.mono (h4 p hp) (by omega)⟩
    | non => trivial
    | bl => trivial
    | int => trivial
    | str => trivial
    | _ => exact h
structure jj (S : Rn) : Prop where
  en : ∀ u, S.ended = some u → Pl 10 u
  evs : ∀ u ∈ S.evs, Pl 10 u
  pap : ∀ u ∈ S.papers, Pl 10 u
  shv : VsOk S.shelf
  shk : (S.shelf.map (·.1)).Nodup
section
variable {w : Way} {S : Rn} {f : Fm} {fs : List Fm}
theorem mO (S : Rn) : ∀ u ∈ S.place, Pl 9 u := by
  unfold Rn.place
  intro u hu
  split at hu
  · simp only [List.mem_cons, List.not_mem_nil, or_false] at hu
    rcases hu with rfl | rfl <;> trivial
  · cases hu
theorem jj.same (o : jj S) {S' : Rn} (e1 : S'.ended = S.ended) (e2 : S'.evs = S.evs) (e3 : S'.papers = S.papers) (e4 : S'.shelf = S.shelf) : jj S' :=
  ⟨by rw [e1]; exact o.en, by rw [e2]; exact o.evs, by rw [e3]; exact o.pap, by rw [e4]; exact o.shv, by rw [e4]; exact o.shk⟩
theorem jj.stop (o : jj S) {l : List U} (h : ∀ u ∈ l, Pl 9 u) : jj (S.stop l) := by
  refine ⟨fun u hu => ?_, o.evs, o.pap, o.shv, o.shk⟩
  have hu : some (U.tup (l ++ S.place)) = some u := hu
  cases hu
  intro u hu
  rcases List.mem_append.mp hu with hu | hu
  · exact h u hu
  · exact mO S u hu
theorem jj.done (o : jj S) (x : Str) {v : U} (h : Pl 9 v) : jj (S.done x v) := by
  refine ⟨o.en, fun u hu => ?_, o.pap, o.shv, o.shk⟩
  rcases List.mem_append.mp (show u ∈ S.evs ++ _ from hu) with hu | hu
  · exact o.evs u hu
  · rw [List.mem_singleton] at hu
    subst hu
    intro u hu
    rcases List.mem_append.mp hu with hu | hu
    · simp only [List.mem_cons, List.not_mem_nil, or_false] at hu
      rcases hu with rfl | rfl | rfl
      · trivial
      · trivial
      · exact h
    · exact mO S u hu
theorem jj.goOn (o : jj S) (k : Nat) : jj (S.goOn k) := o.same rfl rfl rfl rfl
end
structure Co (f h : Fm) : Prop where
  pc : f.pc = h.pc
  loc : f.loc = h.loc
  pos : f.pos = h.pos
  waits : f.waits = h.waits
theorem Co.val {f h : Fm} (c : Co f h) (x : Str) : f.val x = h.val x := by unfold Fm.val; rw [c.loc]
theorem Co.on {f h : Fm} (c : Co f h) (k : Nat) : Co (f.on k) (h.on k) := ⟨c.pc, c.loc, by show f.pos + _ = h.pos + _; rw [c.pos], c.waits⟩
structure Same (S H : Rn) : Prop where
  ended : S.ended = H.ended
  evs : S.evs = H.evs
  shelf : S.shelf = H.shelf
end R
namespace Q
open PySem L2 D C R
noncomputable def gQ (ws : List Str) : List Str → Nat
  | [] => 0
  | x :: r => (if x ∈ ws then 1 else 0) + 2 * gQ ws r
theorem uL (ws : List Str) : ∀ (ro : List Str) (k : Nat), numK ws k ro = 2 ^ k * gQ ws ro
  | [], k => by simp [numK, gQ]
  | x :: r, k => by
    unfold numK gQ
    rw [uL ws r (k + 1), Nat.pow_succ, Nat.mul_add, ← Nat.mul_assoc]
    split <;> simp
theorem pZ (ro ws : List Str) : numOf ro ws = gQ ws ro := by unfold numOf; rw [uL]; simp
theorem jx (ws : List Str) : ∀ (ro : List Str) (i : Nat), (gQ ws ro).testBit i = match ro[i]? with
    | some x => decide (x ∈ ws)
    | none => false
  | [], i => by simp [gQ]
  | x :: r, 0 => by
    rw [Nat.testBit_zero]
    unfold gQ
    by_cases q : x ∈ ws
    · rw [if_pos q]
      have : (1 + 2 * gQ ws r) % 2 = 1 := by omega
      simp [this, q]
    · rw [if_neg q]
      have : (0 + 2 * gQ ws r) % 2 = 0 := by omega
      simp [q]
  | x :: r, i + 1 => by
    rw [Nat.testBit_succ]
    have : gQ ws (x :: r) / 2 = gQ ws r := by
      rw [show gQ ws (x :: r) = (if x ∈ ws then 1 else 0) + 2 * gQ ws r from rfl]
      split <;> omega
    rw [this, jx ws r i]
    simp
theorem rR {ro a b : List Str} (h : ∀ x ∈ ro, (x ∈ a ↔ x ∈ b)) : numOf ro a = numOf ro b := by
  rw [pZ, pZ]
  refine Nat.eq_of_testBit_eq fun i => ?_
  rw [jx, jx]
  cases q : ro[i]? with
  | none => rfl
  | some x => simp [h x (List.mem_of_getElem? q)]
end Q
namespace ao
open PySem L2 D C G2
open Q (numOf numK)
theorem num_eq : aA = R4.aA := rfl
theorem qN : aG = C.aG := rfl
theorem hand_eq : cI = C.cI := rfl
theorem sU : cC = G2.cC := rfl
theorem lD (ro ws : List Str) (h : ro.length ≤ 1000) (st : Store) : aA [tS ro, tS ws] st = .ok (.int (numOf ro ws : Int)) st := by
  rw [num_eq]; exact Q.M.rQ ro ws h st
theorem vI (R s : Sl) (ws : List Str) (x : Str) (a b : Int) (st : Store) : dB [R, .val (tS ws), .val (.int a), .val (.int b), .val (.str x)] st = .nx [R, .val (tS ws), .val (.int (if x ∈ ws then a + b else a)), .val (.int (b + b)), .val (.str x)] st := by
  unfold dB
  by_cases q : x ∈ ws <;> simp [q]
theorem qL (R : Sl) (ws : List Str) (st : Store) : ∀ (ro : List Str) (a : Int) (k : Nat) (s : Sl), ∃ s' b, forL (tgN 4) dB (ro.map U.str) [R, .val (tS ws), .val (.int a), .val (.int ((2 ^ k : Nat) : Int)), s] st = .nx [R, .val (tS ws), .val (.int (a + (numK ws k ro : Nat))), b, s'] st
  | [], a, k, s => ⟨s, _, by rw [List.map_nil, for_nil]; simp [numK]; rfl⟩
  | x :: r, a, k, s => by
    obtain ⟨s', b, e⟩ := qL R ws st r (if x ∈ ws then a + ((2 ^ k : Nat) : Int) else a) (k + 1) (.val (.str x))
    refine ⟨s', b, ?_⟩
    rw [List.map_cons, fB]
    have t := vI R s ws x a ((2 ^ k : Nat) : Int) st
    have e2 : ((2 ^ k : Nat) : Int) + ((2 ^ k : Nat) : Int) = ((2 ^ (k + 1) : Nat) : Int) := by rw [Nat.pow_succ]; omega
    rw [e2] at t
    simp only [kZ, bf, List.foldl, List.set_cons_succ, List.set_cons_zero, t, e]
    rw [show numK ws k (x :: r) = (if x ∈ ws then 2 ^ k else 0) + numK ws (k + 1) r from rfl]
    congr 6
    split <;> push_cast <;> omega
theorem vJ (ro ws : List Str) (h : ro.length ≤ 1000) (st : Store) : cQ [tS ro, tS ws] st = .ok (.int (numOf ro ws : Int)) st := by
  obtain ⟨s', b, e⟩ := qL (.val (tS ro)) ws st ro 0 0 .un
  have hl : ro.length ≤ 16777216 := by omega
  have e' : forL (tgN 4) dB (ro.map U.str) [.val (tS ro), .val (tS ws), .val (.int 0), .val (.int 1), .un] st = .nx [.val (tS ro), .val (tS ws), .val (.int (0 + (numK ws 0 ro : Nat))), b, s'] st := e
  unfold cQ lW
  generalize dB = T1 at *
  simp [e', hl, fin, numOf]
noncomputable def W3 : List Str := [Str.ofString "aaaaaaaa", Str.ofString "mmmmmmmm", Str.ofString "zzzzzzzz"]
theorem mD (ws : List Str) (h : ws.length < 64) : fP (tS ws) = some ((bT ws).map U.str) := by
  unfold fP
  show (bB (ws.map U.str)).bind _ = _
  rw [strs_map]
  simp [h]
theorem uJ {ro ws : List Str} {x : Str} (h : x ∉ ro) : numOf ro (bT (ws ++ [x])) = numOf ro ws := by
  refine Q.rR fun y hy => ?_
  rw [(fM _).mem_iff, List.mem_append, List.mem_singleton]
  exact ⟨fun z => z.resolve_right fun e => h (e ▸ hy), .inl⟩
theorem lK (a : Int) : eqP (.int a) (.int a) = some true := by
  show some (decide (a = a)) = _
  rw [decide_eq_true rfl]
theorem ne_rep (a : Int) : ∀ n : Nat, n ≤ 3 → ne2 (.lst (List.replicate n (.int a))) (.lst (List.replicate n (.int a))) = some (.bl false)
  | 0, _ => by rfl
  | 1, _ => by simp [List.replicate, ne2, eqF, eqZ, lK]
  | 2, _ => by simp [List.replicate, ne2, eqF, eqZ, lK]
  | 3, _ => by simp [List.replicate, ne2, eqF, eqZ, lK]
  | n + 4, h => by omega
theorem mul_rep (a : Int) : ∀ n : Nat, n ≤ 3 → dN (.lst [.int a]) (.int (n : Int)) = some (.lst (List.replicate n (.int a)))
  | 0, _ => by rfl
  | 1, _ => by rfl
  | 2, _ => by rfl
  | 3, _ => by rfl
  | n + 4, h => by omega
set_option maxHeartbeats 8000000 in
theorem mF (ro ws : List Str) (hr : ro.length ≤ 8) (hw : ws.length ≤ 60) (st : Store) : cO [tS ro, tS ws] st = .ok (.bl true) st := by
  have hn := lD ro ws (by omega) st
  have hd := vJ ro ws (by omega) st
  obtain ⟨N, hN⟩ : ∃ N : Int, N = (numOf ro ws : Int) := ⟨_, rfl⟩
  have hl : ws.length ≤ 16777216 := by omega
  have c1 : bu (tgN 5) (andT (tst (D.bin uM (var 5) (var 0))) (tst (D.bin lt2 (aQ gJ (aa (var 1) az)) (cst (.int 8))))) (var 5) (W3.map U.str) [.val (tS ro), .val (tS ws), .val (.int N), .un, .un, .un, .un] st = .ok ((W3.filter fun x => !decide (x ∈ ro) && decide (ws.length < 8)).map U.str) st :=
    du W3 fun x _ => ⟨_, rfl, by
      by_cases q : x ∈ ro
      · simp [q, bf]
      · by_cases z : ws.length < 8
        · simp [q, z, bf]; omega
        · simp [q, z, bf]; omega, fun _ => by simp [bf]⟩
  obtain ⟨L, hL⟩ : ∃ L, L = W3.filter fun x => !decide (x ∈ ro) && decide (ws.length < 8) := ⟨_, rfl⟩
  have hL3 : L.length ≤ 3 := by rw [hL]; exact Nat.le_trans (List.length_filter_le _ _) (by decide)
  have hLm : ∀ x ∈ L, x ∉ ro := fun x hx => by
    rw [hL] at hx
    have := (List.mem_filter.mp hx).2
    simp only [Bool.and_eq_true, Bool.not_eq_true', decide_eq_false_iff_not, decide_eq_true_eq] at this
    exact this.1
  rw [← hL] at c1
  have c2 : bu (tgN 5) dG (aQ eU (aa (bO (itE fP (D.bin bQ (var 1) (aQ szT (aa (var 5) az))))) az)) (L.map U.str) [.val (tS ro), .val (tS ws), .val (.int N), .val (.lst (L.map U.str)), .un, .un, .un] st = .ok (L.map fun x => tS (bT (ws ++ [x]))) st :=
    cD L fun x _ => ⟨_, rfl, by
      have ad : bQ (tS ws) (.tup [.str x]) = some (tS (ws ++ [x])) := by
        show bQ (.tup (ws.map U.str)) (.tup [.str x]) = _
        simp [bQ, hw, Nat.le_trans hw (show 60 ≤ 16777215 by decide)]
      have so := mD (ws ++ [x]) (by simp; omega)
      have tp : eU [.lst ((bT (ws ++ [x])).map U.str)] = some (tS (bT (ws ++ [x]))) := rfl
      simp [szT, bf, ad, so, tp]⟩
  have c3 : bu (tgN 6) dG (bo aA (aa (var 0) (aa (var 6) az))) (L.map fun x => tS (bT (ws ++ [x]))) [.val (tS ro), .val (tS ws), .val (.int N), .val (.lst (L.map U.str)), .val (.lst (L.map fun x => tS (bT (ws ++ [x])))), .un, .un] st = .ok (L.map fun _ => U.int N) st :=
    cD L fun x hx => ⟨_, rfl, by
      have := lD ro (bT (ws ++ [x])) (by omega) st
      rw [uJ (hLm x hx), ← hN] at this
      simp [bf, this]⟩
  have hrep : (L.map fun _ => U.int N) = List.replicate L.length (.int N) := List.map_const' ..
  rw [hrep] at c3
  rw [← hN] at hn hd
  have m1 := mul_rep N L.length hL3
  have m2 := ne_rep N L.length hL3
  have hl3 : L.length ≤ 16777216 := by omega
  have hl4 : (L.map U.str).length ≤ 16777216 := by rw [List.length_map]; exact hl3
  have hl5 : (L.map fun x => tS (bT (ws ++ [x]))).length ≤ 16777216 := by rw [List.length_map]; exact hl3
  have il1 : items (.lst (L.map U.str)) = some (L.map U.str) := rfl
  have il2 : items (.lst (L.map fun x => tS (bT (ws ++ [x])))) = some (L.map fun x => tS (bT (ws ++ [x]))) := rfl
  have ln : gJ [.lst (L.map fun x => tS (bT (ws ++ [x])))] = some (.int (L.length : Int)) := by simp
  have iw : items (.tup [.str (Str.ofString "aaaaaaaa"), .str (Str.ofString "mmmmmmmm"), .str (Str.ofString "zzzzzzzz")]) = some (W3.map U.str) := rfl
  have lw : (W3.map U.str).length ≤ 16777216 := by decide
  have i1 : aP [.int N, .ty "int"] = some (.bl true) := rfl
  have i2 : aP [.int N, .ty "bool"] = some (.bl false) := rfl
  generalize W3.map U.str = WW at *
  generalize L.map U.str = LU at *
  generalize (L.map fun x => tS (bT (ws ++ [x]))) = LV at *
  generalize List.replicate L.length (U.int N) = LR at *
  clear hrep hL hLm hN
  unfold cO iQ
  generalize aA = FN at *
  generalize cQ = FD at *
  generalize tS ro = RO at *
  generalize tS ws = WS at *
  simp [szT, szL, hn, hd, iw, lw, c1, il1, hl4, c2, il2, hl5, c3, ln, m1, m2, i1, i2, bR, fin]
end ao
namespace D
open PySem L2
theorem iW : ∀ ws : List Str, toKeys (ws.map U.str) = some (ws.map NestedKey.text)
  | [] => by unfold toKeys; rfl
  | x :: r => by
    rw [List.map_cons]
    unfold toKeys
    rw [iW r]
    unfold toKey
    rfl
theorem jK : ∀ ws : List Str, NestedKey.depthAll (ws.map NestedKey.text) = 0
  | [] => rfl
  | x :: r => by
    rw [List.map_cons]
    show max (NestedKey.depth (.text x)) (NestedKey.depthAll (r.map NestedKey.text)) = 0
    rw [jK r]
    rfl
theorem tH (kvs : List (NestedKey × U)) (k : NestedKey) (v : U) : valN (putN kvs k v) k = some v := by
  unfold putN
  cases h : (valN kvs k).isSome with
  | true =>
    rw [if_pos rfl]
    unfold valN at h ⊢
    rw [Option.isSome_map] at h
    induction kvs with
    | nil => cases h
    | cons p l ih =>
      rw [List.map_cons, List.find?_cons]
      by_cases c : p.1 = k
      · simp [c]
      · rw [List.find?_cons] at h
        simp only [c, decide_false] at h
        simp only [c, if_false, decide_false]
        exact ih h
  | false =>
    rw [if_neg Bool.false_ne_true]
    unfold valN at h ⊢
    rw [Option.isSome_map] at h
    have h0 : kvs.find? (fun p => decide (p.1 = k)) = none := by
      cases q : kvs.find? (fun p => decide (p.1 = k)) with
      | none => rfl
      | some x => rw [q] at h; cases h
    rw [List.find?_append, h0]
    simp
end D
namespace ao
open PySem L2 D C G2
open Q (numOf numK)
theorem chain {s rest : DS} {env env1 : D.Env} {st st1 : Store} (h : s env st = .nx env1 st1) : aF s rest env st = rest env1 st1 := by
  rw [jk, h]; rfl
noncomputable def keyOf (ro : List Str) (n : Int) : List NestedKey := [.tup (ro.map NestedKey.text), .num n]
theorem key_ev (ro : List Str) (n : Int) : tupK (.tup [tS ro, .int n]) = some (keyOf ro n) := by
  have h1 : toKey (tS ro) = some (.tup (ro.map NestedKey.text)) := by
    show toKey (.tup (ro.map U.str)) = _
    unfold toKey
    rw [iW]
    rfl
  have h2 : toKeys [tS ro, .int n] = some (keyOf ro n) := by
    unfold toKeys
    rw [h1]
    unfold toKeys
    unfold toKeys toKey
    rfl
  have h3 : (NestedKey.tup (keyOf ro n)).depth ≤ 8 := by
    show max ((NestedKey.depthAll (ro.map NestedKey.text)) + 1) (max 0 0) + 1 ≤ 8
    rw [jK]
    decide
  unfold tupK
  simp only [h2, Option.bind_some, if_pos h3]
theorem draw6 {n : Nat} {st : Store} {env : D.Env} (h : Hs n st) (h0 : ∀ st', var 6 env st' = .ok (.ref n) st') : Dr n st (fun _ : Bool => True) (tst (D.bin eq2 (bo aG (aa (var 6) (aa (cst (.int 2)) az))) (cst (.int 0))) env st) := by
  obtain ⟨_, s1, e1, k1, r, rfl, hr⟩ := draw h (show (0 : Int) < 2 by decide) (by decide)
  rw [← qN] at e1
  refine ⟨decide ((r : Int) = 0), s1, ?_, k1, trivial⟩
  rw [tO, pD]
  simp [h0, e1]
theorem oH (s0 s1 s3 s5 s6 s7 s9 s10 s11 : Sl) (A RO S : List Str) (hA : A.length ≤ 8) (hR : RO.length ≤ 8) (hS : S.length ≤ 8) (st : Store) :
    d8 [s0, s1, .val (tS A), s3, .val (tS RO), s5, s6, s7, .val (tS S), s9, s10, s11] st = .nx [s0, s1, .val (tS A), s3, .val (tS RO), s5, s6, s7, .val (tS S), s9, s10, s11] st := by
  have h1 := mF RO S hR (by omega) st
  have hc : bx A (some 1) none = A.drop 1 := iJ A 1
  have h2 := mF A (A.drop 1) hA (by rw [List.length_drop]; omega) st
  have sl : sl3 (tS A) (some 1) none = some (tS (A.drop 1)) := by rw [sl_txt, hc]
  unfold d8
  generalize cO = FR at *
  generalize tS A = AU at *
  generalize tS (A.drop 1) = AD at *
  generalize tS RO = RU at *
  generalize tS S = SU at *
  simp [h1, h2, sl]
set_option maxHeartbeats 8000000 in
theorem turn_ok [Wor] (ns : List Int) (k : Nat) (hk : k ≤ 1000) (A : List Str) (hA : A.length ≤ 8) (s4 s6 s7 s8 : Sl) (st : Store) (kvs : List (NestedKey × U)) (h0 : st[0]? = some (.dcN Wor.w kvs)) (hkv : kvs.length < 1000) :
    ∃ (RO : List Str) (t6 t7 t8 : Sl) (st' : Store) (kvs' : List (NestedKey × U)), RO.length ≤ 8 ∧ st'[0]? = some (.dcN Wor.w kvs') ∧ kvs'.length ≤ kvs.length + 1 ∧
      gA [.val (.scr ns), .val (.ref 0), .val (tS A), .val (.int (k : Int)), s4, .un, s6, s7, s8, .un, .un, .un] st = .nx [.val (.scr ns), .val (.ref 0), .val (tS RO), .val (.int (k : Int)), .val (tS RO), .un, t6, t7, t8, .un, .un, .un] st' := by
  obtain ⟨ob, e1, ho⟩ := hand_ok ns k (by omega) st
  rw [← hand_eq] at e1
  obtain ⟨n, hn⟩ : ∃ n, n = st.length := ⟨_, rfl⟩
  have hn0 : 0 < n := by
    have := (List.getElem?_eq_some_iff.mp h0).1
    omega
  have hs1 : Hs n (st ++ [ob]) := ⟨ob, by rw [hn]; simp, ho⟩
  have g0 : (st ++ [ob])[0]? = some (.dcN Wor.w kvs) := by rw [List.getElem?_append_left (by omega)]; exact h0
  rw [← hn] at e1
  obtain ⟨S1, hS1⟩ : ∃ S1, S1 = st ++ [ob] := ⟨_, rfl⟩
  rw [← hS1] at e1 hs1 g0
  obtain ⟨_, st2, e2, k2, r, rfl, hr⟩ := draw hs1 (show (0 : Int) < 9 by decide) (by decide)
  obtain ⟨_, st3, e3, k3, ws, rfl, hw⟩ := sS n r (by omega) st2 k2.hs
  rw [← qN] at e2
  rw [← sU] at e3
  obtain ⟨RO, hRO⟩ : ∃ RO, RO = bT ws := ⟨_, rfl⟩
  have hRl : RO.length ≤ 8 := by rw [hRO, (fM ws).length_eq, hw.len]; omega
  have so : fO (lS ws) = some (RO.map U.str) := by
    unfold fO
    show (bB (ws.map U.str)).bind _ = _
    rw [strs_map, hRO]
    simp [show ws.length < 64 by rw [hw.len]; omega]
  have tp : eU [.lst (RO.map U.str)] = some (tS RO) := rfl
  have vv : ∀ st', var 6 [.val (.scr ns), .val (.ref 0), .val (tS A), .val (.int (k : Int)), .val (tS RO), .un, .val (.ref n), s7, s8, .un, .un, .un] st' = .ok (.ref n) st' := fun _ => rfl
  obtain ⟨us, st4, e4, k4, LV, hLV, rfl⟩ := nM (n := n) (t := tgN 10) (c := tst (D.bin eq2 (bo aG (aa (var 6) (aa (cst (.int 2)) az))) (cst (.int 0)))) (e := var 10) (f := U.str) (env := [.val (.scr ns), .val (.ref 0), .val (tS A), .val (.int (k : Int)), .val (tS RO), .un, .val (.ref n), s7, s8, .un, .un, .un]) RO st3 k3.hs fun x _ =>
    ⟨_, rfl, fun st h => draw6 h fun _ => rfl, fun st => rfl⟩
  have hLl : LV.length ≤ 8 := Nat.le_trans hLV.length_le hRl
  have K4 : fL n S1 st4 := (k2.trans k3).trans k4
  have g4 : st4[0]? = some (.dcN Wor.w kvs) := by rw [K4.oth 0 (by omega)]; exact g0
  have l4 : 0 < st4.length := (List.getElem?_eq_some_iff.mp g4).1
  have il : items (tS RO) = some (RO.map U.str) := rfl
  have rl : (RO.map U.str).length ≤ 16777216 := by rw [List.length_map]; omega
  have tp4 : eU [.lst (LV.map U.str)] = some (tS LV) := rfl
  have num := lD RO LV (by omega)
  have due := vJ RO LV (by omega)
  obtain ⟨N, hN⟩ : ∃ N : Int, N = (numOf RO LV : Int) := ⟨_, rfl⟩
  rw [← hN] at num due
  have kev := key_ev RO N
  obtain ⟨KS, hKS⟩ : ∃ KS, KS = keyOf RO N := ⟨_, rfl⟩
  rw [← hKS] at kev
  have hzl : kvs.length < sizeLine := by rw [sizeLine_eq]; omega
  have put1 : j7 st4 (.ref 0) (.tup [tS RO, .int N]) (tS LV) = some (.dcN Wor.w (putN kvs (.tup KS) (tS LV))) := by
    unfold j7
    rw [jy g4, kev]
    simp [show kvs.length < 16777216 by omega]
  obtain ⟨st5, h5⟩ : ∃ st5, st5 = st4.set 0 (.dcN Wor.w (putN kvs (.tup KS) (tS LV))) := ⟨_, rfl⟩
  have g5 : st5[0]? = some (.dcN Wor.w (putN kvs (.tup KS) (tS LV))) := by rw [h5]; exact List.getElem?_set_self l4
  have get1 : nu st5 (.ref 0) (.tup [tS RO, .int N]) = some (tS LV) := by
    unfold nu
    rw [jy g5, kev]
    exact tH _ _ _
  have ne1 : ne2 (tS LV) (tS LV) = some (.bl false) := by rw [ne_txt]; simp
  have T1 := fun s8 => oH (.val (.scr ns)) (.val (.ref 0)) (.val (.int (k : Int))) .un (.val (.ref n)) (.val (tS LV)) .un .un .un A RO s8 hA hRl
  have lp : ∀ s8 : Sl, forL (tgN 8) d8 [tS LV, tS RO, .tup []] [.val (.scr ns), .val (.ref 0), .val (tS A), .val (.int (k : Int)), .val (tS RO), .un, .val (.ref n), .val (tS LV), s8, .un, .un, .un] st4 = .nx [.val (.scr ns), .val (.ref 0), .val (tS A), .val (.int (k : Int)), .val (tS RO), .un, .val (.ref n), .val (tS LV), .val (.tup []), .un, .un, .un] st4 := fun s8 => by
    have a1 := T1 LV hLl st4
    have a2 := T1 RO hRl st4
    have a3 := T1 [] (by decide) st4
    have a3 : d8 [.val (.scr ns), .val (.ref 0), .val (tS A), .val (.int (k : Int)), .val (tS RO), .un, .val (.ref n), .val (tS LV), .val (.tup []), .un, .un, .un] st4 = .nx [.val (.scr ns), .val (.ref 0), .val (tS A), .val (.int (k : Int)), .val (tS RO), .un, .val (.ref n), .val (tS LV), .val (.tup []), .un, .un, .un] st4 := a3
    generalize d8 = TL at *
    rw [fB]
    simp only [kZ, bf, List.foldl, List.set_cons_succ, List.set_cons_zero, a1]
    rw [fB]
    simp only [kZ, bf, List.foldl, List.set_cons_succ, List.set_cons_zero, a2]
    rw [fB]
    simp only [kZ, bf, List.foldl, List.set_cons_succ, List.set_cons_zero, a3]
    rw [for_nil]
  refine ⟨RO, .val (.ref n), .val (tS LV), .val (.tup []), st5, _, hRl, g5, mK _ _ _, ?_⟩
  obtain ⟨LU, hLU⟩ : ∃ LU, LU = LV.map U.str := ⟨_, rfl⟩
  obtain ⟨RU, hRU⟩ : ∃ RU, RU = RO.map U.str := ⟨_, rfl⟩
  rw [← hLU] at e4 tp4
  rw [← hRU] at so tp il rl e4
  have num4 := num st4
  have due5 := due st5
  clear hLU hRU hRO hLV T1 kev hKS hN num due K4 vv
  obtain ⟨SC, hSC⟩ : ∃ SC, SC = U.scr ns := ⟨_, rfl⟩
  obtain ⟨KI, hKI⟩ : ∃ KI, KI = U.int (k : Int) := ⟨_, rfl⟩
  obtain ⟨AU, hAU⟩ : ∃ AU, AU = tS A := ⟨_, rfl⟩
  obtain ⟨RT, hRT⟩ : ∃ RT, RT = tS RO := ⟨_, rfl⟩
  obtain ⟨LT, hLT⟩ : ∃ LT, LT = tS LV := ⟨_, rfl⟩
  obtain ⟨WU, hWU⟩ : ∃ WU, WU = lS ws := ⟨_, rfl⟩
  have e4' : bu (tgN 10) (tst (D.bin eq2 (bo aG (aa (var 6) (aa (cst (.int 2)) az))) (cst (.int 0)))) (var 10) RU [.val SC, .val (.ref 0), .val AU, .val KI, .val RT, .un, .val (.ref n), s7, s8, .un, .un, .un] st3 = .ok LU st4 := by rw [hSC, hKI, hAU, hRT]; exact e4
  have lp8 := lp s8
  rw [← hSC, ← hKI, ← hAU, ← hRT, ← hLT] at lp8
  rw [← hSC, ← hKI] at e1
  rw [← hWU] at so e3
  rw [← hRT] at tp il num4 due5 get1
  rw [← hLT] at tp4 num4 due5 get1 ne1 h5
  rw [← hSC, ← hKI, ← hAU, ← hRT, ← hLT]
  have put1 : j7 st4 (.ref 0) (.tup [RT, .int N]) LT = some (.dcN Wor.w (putN kvs (.tup KS) LT)) := by rw [hRT, hLT]; exact put1
  clear hSC hKI hAU hRT hLT hWU lp e4 g5
  generalize (Ob.dcN Wor.w (putN kvs (.tup KS) LT)) = OB at *
  have r1 : (bh 6 (bo cI (aa (var 0) (aa (var 3) az)))) [.val SC, .val (.ref 0), .val AU, .val KI, s4, .un, s6, s7, s8, .un, .un, .un] st = .nx [.val SC, .val (.ref 0), .val AU, .val KI, s4, .un, .val (.ref n), s7, s8, .un, .un, .un] S1 := by
    simp [e1]
  have r2 : (bh 4 (aQ eU (aa (bO (itE fO (bo cC (aa (var 6) (aa (bo aG (aa (var 6) (aa (cst (.int 9)) az))) az))))) az))) [.val SC, .val (.ref 0), .val AU, .val KI, s4, .un, .val (.ref n), s7, s8, .un, .un, .un] S1 = .nx [.val SC, .val (.ref 0), .val AU, .val KI, .val RT, .un, .val (.ref n), s7, s8, .un, .un, .un] st3 := by
    simp [e2, e3, so, tp]
  have r3 : (bh 7 (aQ eU (aa (bO (bG (cH (var 4)) [10] (tgN 10) (tst (D.bin eq2 (bo aG (aa (var 6) (aa (cst (.int 2)) az))) (cst (.int 0)))) (var 10))) az))) [.val SC, .val (.ref 0), .val AU, .val KI, .val RT, .un, .val (.ref n), s7, s8, .un, .un, .un] st3 = .nx [.val SC, .val (.ref 0), .val AU, .val KI, .val RT, .un, .val (.ref n), .val LT, s8, .un, .un, .un] st4 := by
    generalize (tst (D.bin eq2 (bo aG (aa (var 6) (aa (cst (.int 2)) az))) (cst (.int 0)))) = CT at *
    simp [il, rl, bR, e4', tp4]
  have r4 : (oG (cH (aQ szL (aa (var 7) (aa (var 4) (aa (aQ szT az) az))))) (tgN 8) d8) [.val SC, .val (.ref 0), .val AU, .val KI, .val RT, .un, .val (.ref n), .val LT, s8, .un, .un, .un] st4 = .nx [.val SC, .val (.ref 0), .val AU, .val KI, .val RT, .un, .val (.ref n), .val LT, .val (.tup []), .un, .un, .un] st4 := by
    generalize d8 = TL at *
    simp [szL, szT, lp8]
  have r5 : (pQ (var 1) (aQ szT (aa (var 4) (aa (bo aA (aa (var 4) (aa (var 7) az))) az))) (var 7)) [.val SC, .val (.ref 0), .val AU, .val KI, .val RT, .un, .val (.ref n), .val LT, .val (.tup []), .un, .un, .un] st4 = .nx [.val SC, .val (.ref 0), .val AU, .val KI, .val RT, .un, .val (.ref n), .val LT, .val (.tup []), .un, .un, .un] st5 := by
    rw [h5]
    generalize aA = FN at *
    simp [szT, num4, put1]
  have r6 : (sIf (tst (D.bin ne2 (ixN' (var 1) (aQ szT (aa (var 4) (aa (bo cQ (aa (var 4) (aa (var 7) az))) az)))) (var 7))) (aF (di (cst (.bl false))) bL) bL) [.val SC, .val (.ref 0), .val AU, .val KI, .val RT, .un, .val (.ref n), .val LT, .val (.tup []), .un, .un, .un] st5 = .nx [.val SC, .val (.ref 0), .val AU, .val KI, .val RT, .un, .val (.ref n), .val LT, .val (.tup []), .un, .un, .un] st5 := by
    generalize cQ = FD at *
    simp [szT, due5, get1, ne1]
  have r7 : (bh 2 (var 4)) [.val SC, .val (.ref 0), .val AU, .val KI, .val RT, .un, .val (.ref n), .val LT, .val (.tup []), .un, .un, .un] st5 = .nx [.val SC, .val (.ref 0), .val RT, .val KI, .val RT, .un, .val (.ref n), .val LT, .val (.tup []), .un, .un, .un] st5 := by
    simp
  unfold gA
  rw [chain r1, chain r2, chain r3, chain r4, chain r5, chain r6, chain r7]
  rfl
noncomputable def R3 : List Str := [Str.ofString "a", Str.ofString "aa", Str.ofString "b"]
noncomputable def sel (n : Nat) : List Str := (R3.zipIdx.filter fun p => n.testBit p.2).map (·.1)
theorem sel_num : ∀ n < 8, numOf R3 (sel n) = n := by decide +kernel
noncomputable def eI : DE := (aQ eU (aa (bO (bG (itA bj (aa (var 4) az)) [11, 10] (tgT [11, 10]) (tst (D.bin eq2 (D.bin lZ (D.bin lu (var 9) (var 11)) (cst (.int 1))) (cst (.int 1)))) (var 10))) az))
theorem bit_ev : ∀ n : Nat, n < 8 → ∀ i : Nat, i < 3 → (lu (.int (n : Int)) (.int (i : Int))).bind (fun a => (lZ a (.int 1)).bind fun b => eq2 b (.int 1)) = some (.bl (n.testBit i)) := by
  intro n hn i hi
  rcases n with _ | _ | _ | _ | _ | _ | _ | _ | n <;> (try omega) <;> rcases i with _ | _ | _ | i <;> (try omega) <;> rfl
theorem bits {n i : Nat} (hn : n < 8) (hi : i < 3) : ∃ a b, lu (.int (n : Int)) (.int (i : Int)) = some a ∧ lZ a (.int 1) = some b ∧ eq2 b (.int 1) = some (.bl (n.testBit i)) := by
  have h := bit_ev n hn i hi
  cases h1 : lu (.int (n : Int)) (.int (i : Int)) with
  | none => rw [h1] at h; cases h
  | some a =>
    rw [h1, Option.bind_some] at h
    cases h2 : lZ a (.int 1) with
    | none => rw [h2] at h; cases h
    | some b =>
      rw [h2, Option.bind_some] at h
      exact ⟨a, b, rfl, h2, h⟩
theorem vf (n : Nat) (hn : n < 8) (s0 s1 s2 s3 s5 s6 s7 s8 : Sl) (st : Store) : eI [s0, s1, s2, s3, .val (tS R3), s5, s6, s7, s8, .val (.int (n : Int)), .un, .un] st = .ok (tS (sel n)) st := by
  have en : bj [tS R3] = some (R3.zipIdx.map fun p => U.tup [.int (p.2 : Int), .str p.1]) := rfl
  have c := du (t := tgT [11, 10]) (q := tst (D.bin eq2 (D.bin lZ (D.bin lu (var 9) (var 11)) (cst (.int 1))) (cst (.int 1)))) (e := var 10) (env := [s0, s1, s2, s3, .val (tS R3), s5, s6, s7, s8, .val (.int (n : Int)), .un, .un]) (st := st) (f := fun p : Str × Nat => U.tup [.int (p.2 : Int), .str p.1]) (g := fun p => U.str p.1) (p := fun p => n.testBit p.2) R3.zipIdx (fun p hp => by
    have hp2 : p.2 < 3 := by
      obtain ⟨i, hi, rfl⟩ := List.getElem_of_mem hp
      have : i < 3 := hi
      rw [List.getElem_zipIdx]
      simpa using this
    obtain ⟨a, b, h1, h2, h3⟩ := bits hn hp2
    refine ⟨_, rfl, ?_, fun _ => ?_⟩
    · simp [bf, h1, h2, h3]
    · simp [bf])
  have hs : ((R3.zipIdx.filter fun p => n.testBit p.2).map fun p => U.str p.1) = (sel n).map U.str := by
    unfold sel
    rw [List.map_map]; rfl
  rw [hs] at c
  have lz : (R3.zipIdx.map fun p => U.tup [.int (p.2 : Int), .str p.1]).length ≤ 16777216 := by decide
  have tp : eU [.lst ((sel n).map U.str)] = some (tS (sel n)) := rfl
  unfold eI
  generalize (R3.zipIdx.map fun p => U.tup [.int (p.2 : Int), .str p.1]) = ZZ at *
  generalize (sel n).map U.str = SN at *
  generalize tS R3 = RR at *
  simp [en, lz, bR, c, tp]
set_option maxHeartbeats 4000000 in
theorem uW [Wor] (ns : List Int) (h : ns.length ≤ 63) : ∃ st', qF [.scr ns] [] = .ok (.bl true) st' := by
  obtain ⟨m, hm, hm2⟩ : ∃ m : Nat, max (2 : Int) (min (ns.length : Int) 60) = (m : Int) ∧ m ≤ 60 := by
    refine ⟨(max (2 : Int) (min (ns.length : Int) 60)).toNat, ?_, ?_⟩ <;> omega
  have rg := gM m (by omega)
  obtain ⟨env', st', e, A, s3, s4, s6, s7, s8, kvs, rfl, hA, h0, hk⟩ := G2.qD (t := tgN 3) (b := gA) (f := fun i : Nat => U.int (i : Nat)) (fun rest env st' => ∃ (A : List Str) (s3 s4 s6 s7 s8 : Sl) (kvs : List (NestedKey × U)), env = [.val (.scr ns), .val (.ref 0), .val (tS A), s3, s4, .un, s6, s7, s8, .un, .un, .un] ∧ A.length ≤ 8 ∧ st'[0]? = some (.dcN Wor.w kvs) ∧ kvs.length + rest.length ≤ 60) (List.range m) [.val (.scr ns), .val (.ref 0), .val (tS []), .un, .un, .un, .un, .un, .un, .un, .un, .un] [.dcN Wor.w []]
    ⟨[], _, _, _, _, _, [], rfl, by decide, rfl, by rw [List.length_range]; simpa using hm2⟩ (fun i rest env st' hi ⟨A, s3, s4, s6, s7, s8, kvs, he, hA, h0, hk⟩ => by
      have hi := List.mem_range.mp hi
      rw [List.length_cons] at hk
      obtain ⟨RO, t6, t7, t8, st2, kvs', hR, g0, gk, e2⟩ := turn_ok ns i (by omega) A hA s4 s6 s7 s8 st' kvs h0 (by omega)
      exact ⟨[(3, .int (i : Nat))], _, st2, rfl, by rw [he]; exact e2, RO, _, _, _, _, _, kvs', rfl, hR, g0, by omega⟩)
  refine ⟨st', ?_⟩
  have c5 : bu (tgN 9) dG eI ((List.range 8).map fun i => U.int (i : Nat)) [.val (.scr ns), .val (.ref 0), .val (tS A), s3, .val (tS R3), .un, s6, s7, s8, .un, .un, .un] st' = .ok ((List.range 8).map fun n => tS (sel n)) st' :=
    cD (List.range 8) fun n hn => ⟨_, rfl, vf n (List.mem_range.mp hn) ..⟩
  have c6 : ∀ EV, bu (tgN 7) dG (bo aA (aa (var 4) (aa (var 7) az))) ((List.range 8).map fun n => tS (sel n)) [.val (.scr ns), .val (.ref 0), .val (tS A), s3, .val (tS R3), EV, s6, .un, s8, .un, .un, .un] st' = .ok ((List.range 8).map fun n => U.int (n : Nat)) st' := fun EV =>
    cD (List.range 8) fun n hn => ⟨_, rfl, by
      have := lD R3 (sel n) (by decide) st'
      rw [sel_num n (List.mem_range.mp hn)] at this
      simp [bf, this]⟩
  have r8 : fX [U.int 8] = some ((List.range 8).map fun i => U.int (i : Nat)) := gM 8 (by decide)
  have eqv : eq2 (.lst ((List.range 8).map fun n => U.int (n : Nat))) (.lst ((List.range 8).map fun n => U.int (n : Nat))) = some (.bl true) := by rfl
  have ln : gJ [.scr ns] = some (.int (ns.length : Int)) := by simp
  have mi : rY [.int (ns.length : Int), .int 60] = some (.int (min (ns.length : Int) 60)) := by
    simp
    split <;> omega
  have mx : rZ [.int 2, .int (min (ns.length : Int) 60)] = some (.int (m : Int)) := by
    rw [← hm]
    simp
    split <;> omega
  have rl8 : ((List.range 8).map fun i => U.int (i : Nat)).length ≤ 16777216 := by decide
  have ie : items (.lst ((List.range 8).map fun n => tS (sel n))) = some ((List.range 8).map fun n => tS (sel n)) := rfl
  have il : ((List.range 8).map fun n => tS (sel n)).length ≤ 16777216 := by rw [List.length_map, List.length_range]; decide
  obtain ⟨RG, hRG⟩ : ∃ RG, RG = (List.range m).map fun i => U.int (i : Nat) := ⟨_, rfl⟩
  rw [← hRG] at rg e
  have lRG : RG.length ≤ 16777216 := by rw [hRG, List.length_map, List.length_range]; omega
  have lg8 : iI (cst (.int 8)) = fun env st => .ok ((List.range 8).map fun i => U.int (i : Nat)) st := by
    funext env st
    unfold iI
    rw [lU]
    rfl
  generalize (List.range 8).map (fun n => tS (sel n)) = EV at *
  generalize (List.range 8).map (fun i => U.int (i : Nat)) = R8 at *
  generalize U.int (min (ns.length : Int) 60) = MI at *
  generalize U.int (m : Int) = MX at *
  generalize U.scr ns = SC at *
  obtain ⟨TR, hTR⟩ : ∃ TR, TR = tS R3 := ⟨_, rfl⟩
  have sz : ∀ env st, (aQ szT (aa (cst (.str (Str.ofString "a"))) (aa (cst (.str (Str.ofString "aa"))) (aa (cst (.str (Str.ofString "b"))) az)))) env st = .ok TR st := fun env st => by
    rw [hTR]; rfl
  rw [← hTR] at c5 c6
  obtain ⟨T0, hT0⟩ : ∃ T0, T0 = tS [] := ⟨_, rfl⟩
  have sz0 : ∀ env st, (aQ szT az) env st = .ok T0 st := fun env st => by rw [hT0]; rfl
  rw [← hT0] at e
  generalize tS A = AU at *
  have e1 : qF = runB 12 1 (aF (bh 1 pU) (aF (bh 2 (aQ szT az)) (aF (oG (itA fX (aa (aQ rZ (aa (cst (.int 2)) (aa (aQ rY (aa (aQ gJ (aa (var 0) az)) (aa (cst (.int 60)) az))) az))) az)) (tgN 3) gA) (aF (bh 4 (aQ szT (aa (cst (.str (Str.ofString "a"))) (aa (cst (.str (Str.ofString "aa"))) (aa (cst (.str (Str.ofString "b"))) az))))) (aF (bh 5 (bO (bG (itA fX (aa (cst (.int 8)) az)) [9] (tgN 9) dG eI))) (aF (di (D.bin eq2 (bO (bG (cH (var 5)) [7] (tgN 7) dG (bo aA (aa (var 4) (aa (var 7) az))))) (bO (iI (cst (.int 8)))))) bL)))))) := rfl
  rw [e1, lg8]
  generalize gA = T2 at *
  generalize aA = FN at *
  generalize eI = EI at *
  generalize (aQ szT (aa (cst (.str (Str.ofString "a"))) (aa (cst (.str (Str.ofString "aa"))) (aa (cst (.str (Str.ofString "b"))) az)))) = Z3 at *
  generalize aQ szT az = Z0 at *
  simp [ln, mi, mx, rg, lRG, e, sz, sz0, r8, rl8, c5, ie, il, c6, bR, eqv, fin]
end ao
open PySem PySem.W PyProof.Rows
set_option maxHeartbeats 0 in
theorem PySem.Challenge.cw_allcallers_k36_numbers_of_leaves_holds : PySem.Challenge.rw_allcallers_k36_numbers_of_leaves.Holds := by
  w_on; o_law; k_head; (case hw => w_witness2)
  k_fill
  refine L2.walk_of (l := PySem.Challenge.rw_allcallers_k36_numbers_of_leaves) (n := 63) (k := 3) (x := "_law_script") (CX := fun w => L2.CX PySem.Challenge.rw_allcallers_k36_numbers_of_leaves.prog w) (sp := fun w => D.spD _ D.noXS 1 (@ao.qF ⟨w⟩)) rfl (by decide) rfl ⟨rfl, by decide, by decide⟩ (fun w h Y => PySem.W.kIn_of Y) ?F (fun w H a ns hl _ hS => D.law_sp hS (@ao.uW ⟨w⟩ ns hl)) (fun _ _ _ _ _ h => D.cx_no h)
  case F =>
    intro w mg fa h KX G hmg
    letI : D.Wor := ⟨w⟩
    refine' ao.all_mk KX G hmg ?a0 ?l0 ?c0 ?k0 ?a1 ?l1 ?c1 ?k1 ?a2 ?l2 ?c2 ?k2 ?a3 ?l3 ?c3 ?k3 ?a4 ?l4 ?c4 ?k4 ?a5 ?l5 ?c5 ?k5 ?a6 ?l6 ?c6 ?k6 ?z_bool ?z_enumerate ?z_int ?z_isinstance ?z_len ?z_list ?z_max ?z_min ?z_range ?z_sorted ?z_sum ?z_tuple
    (case a0 => k_is)
    (case l0 => k_is)
    (case c0 => k_is)
    (case k0 => k_is)
    (case a1 => k_is)
    (case l1 => k_is)
    (case c1 => k_is)
    (case k1 => k_is)
    (case a2 => k_is)
    (case l2 => k_is)
    (case c2 => k_is)
    (case k2 => k_is)
    (case a3 => k_is)
    (case l3 => k_is)
    (case c3 => k_is)
    (case k3 => k_is)
    (case a4 => k_is)
    (case l4 => k_is)
    (case c4 => k_is)
    (case k4 => k_is)
    (case a5 => k_is)
    (case l5 => k_is)
    (case c5 => k_is)
    (case k5 => k_is)
    (case a6 => k_is)
    (case l6 => k_is)
    (case c6 => k_is)
    (case k6 => k_is)
    (case z_bool => k_is)
    (case z_enumerate => k_is)
    (case z_int => k_is)
    (case z_isinstance => k_is)
    (case z_len => k_is)
    (case z_list => k_is)
    (case z_max => k_is)
    (case z_min => k_is)
    (case z_range => k_is)
    (case z_sorted => k_is)
    (case z_sum => k_is)
    (case z_tuple => k_is)
