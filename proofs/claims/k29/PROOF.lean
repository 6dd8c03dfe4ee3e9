import PyProof.Rows.All
import Wide.All
import OpenK.AllK
import Wide.FinOn
import HandS.ForMost
import HandS.ForExc
import HandS.IsInst
import HandS.TupMul
import KE.DataEq
import HandS.SortInts
import HandS.StrMore
import HandS.Defaults
import HandS.HeadHook1
import HandS.HeadHook2
import HandS.Head0
import HandS.Head1
import HandS.Head2
import HandS.HeadEnd
import KE.KExcIs
import HandS.ExcValue
import HandS.ExcInit
import HandS.ExcField
import HandS.TryOnly
import KE.GoesMore
import KE.GoesEnum
import HandS.Iter
import HandS.Codes
import PyProof.StrBlock2
import PySem.Challenge.RW_moot_k29_rows_refused
set_option Elab.async false
set_option linter.all false
set_option maxRecDepth 100000
set_option maxHeartbeats 4000000
set_option autoImplicit false
/-! Data over the heap: what is never changed is a tree; what is changed stands in a store. -/
namespace Mo
open PySem L2

/-- data: trees (never changed), and objects of the store by their addresses -/
inductive D where
  | non | bl (b : Bool) | int (i : Int) | str (s : Str) | lst (ds : List D) | tup (ds : List D) | obj (a : Addr) | scr (ns : List Int)
/-- what stands in the store -/
inductive DO where
  | lst (ds : List D) | dct (kvs : List (Key × D)) | ins (C : Addr) (fs : List (Str × D)) | exc (C : Addr) (fs : List (Str × D))
abbrev Om := Addr → Option DO
def ups (om : Om) (a : Addr) (o : DO) : Om := fun b => if b = a then some o else om b
def dels (om : Om) (a : Addr) : Om := fun b => if b = a then none else om b
theorem ups_same {om : Om} {a : Addr} {o : DO} : ups om a o a = some o := if_pos rfl
theorem ups_ne {om : Om} {a b : Addr} {o : DO} (h : b ≠ a) : ups om a o b = om b := if_neg h
theorem dels_same {om : Om} {a : Addr} : dels om a a = none := if_pos rfl
theorem dels_ne {om : Om} {a b : Addr} (h : b ≠ a) : dels om a b = om b := if_neg h
theorem ups_ups {om : Om} {a : Addr} {o u : DO} : ups (ups om a o) a u = ups om a u := by
  funext b
  by_cases h : b = a
  · subst h; rw [ups_same, ups_same]
  · rw [ups_ne h, ups_ne h, ups_ne h]
theorem dels_ups {om : Om} {a : Addr} {o : DO} (h : om a = none) : dels (ups om a o) a = om := by
  funext b
  by_cases e : b = a
  · subst e; rw [dels_same, h]
  · rw [dels_ne e, ups_ne e]

/-- a list, a tuple of the written part -/
def KL (K : PySem.W.Frag) (a : Addr) (xs : List V) : Prop :=
  ∃ (o : Obj) (its : Array Value) (n : Nat), K.lookup a = some o ∧ o.cls = .type "list" ∧ o.dict = none ∧ o.data = .seq its n ∧ its.size ≤ sizeLine ∧ Vals xs its.toList
def KT (K : PySem.W.Frag) (a : Addr) (xs : List V) : Prop :=
  ∃ (o : Obj) (its : Array Value) (n : Nat), K.lookup a = some o ∧ o.cls = .type "tuple" ∧ o.data = .seq its n ∧ its.size ≤ sizeLine ∧ Vals xs its.toList

mutual
def Rep (K : PySem.W.Frag) (om : Om) (H : Hp) : D → V → Prop
  | .non, v => v = .non
  | .bl b, v => v = .bl b
  | .int i, v => v = .int i
  | .str s, v => v = .str s
  | .lst ds, v => ∃ a xs, v = .ref a ∧ (om a = none ∧ H a = some (.lst xs)) ∧ RepL K om H ds xs
  | .tup ds, v => ∃ a xs, v = .ref a ∧ ((om a = none ∧ H a = some (.tup xs)) ∨ KT K a xs) ∧ RepL K om H ds xs
  | .obj a, v => v = .ref a
  | .scr ns, v => ∃ a, v = .ref a ∧ ((om a = none ∧ Rd H a (.lst (ns.map V.int))) ∨ KL K a (ns.map V.int))
def RepL (K : PySem.W.Frag) (om : Om) (H : Hp) : List D → List V → Prop
  | [], xs => xs = []
  | d :: ds, xs => ∃ x r, xs = x :: r ∧ Rep K om H d x ∧ RepL K om H ds r
end

section
variable {K : PySem.W.Frag} {om om' : Om} {H H' : Hp}
/-- what is kept of the heap: what was no object of the store stays as it was -/
def Stable (om : Om) (H : Hp) (om' : Om) (H' : Hp) : Prop := ∀ a o, H a = some o → om a = none → H' a = some o ∧ om' a = none
theorem Stable.refl : Stable om H om H := fun _ _ h n => ⟨h, n⟩
theorem Stable.trans {om1 : Om} {H1 : Hp} (a : Stable om H om1 H1) (b : Stable om1 H1 om' H') : Stable om H om' H' := fun c o h n =>
  let ⟨h1, n1⟩ := a c o h n
  b c o h1 n1
theorem Stable.rd (s : Stable om H om' H') {a : Addr} {u : HO} (n : om a = none) (h : Rd H a u) : om' a = none ∧ Rd H' a u := by
  rcases h with h | ⟨o, h⟩
  · exact ⟨(s a _ h n).2, .inl (s a _ h n).1⟩
  · exact ⟨(s a _ h n).2, .inr ⟨o, (s a _ h n).1⟩⟩
mutual
theorem Rep.mono (s : Stable om H om' H') : ∀ {d : D} {v : V}, Rep K om H d v → Rep K om' H' d v
  | .non, _, h => h
  | .bl _, _, h => h
  | .int _, _, h => h
  | .str _, _, h => h
  | .lst ds, _, ⟨a, xs, e, ⟨n, h⟩, r⟩ => ⟨a, xs, e, ⟨(s a _ h n).2, (s a _ h n).1⟩, RepL.mono s r⟩
  | .tup ds, _, ⟨a, xs, e, h, r⟩ => ⟨a, xs, e, h.elim (fun ⟨n, q⟩ => .inl ⟨(s a _ q n).2, (s a _ q n).1⟩) .inr, RepL.mono s r⟩
  | .obj _, _, h => h
  | .scr ns, _, ⟨a, e, h⟩ => ⟨a, e, h.elim (fun ⟨n, q⟩ => .inl (s.rd n q)) .inr⟩
theorem RepL.mono (s : Stable om H om' H') : ∀ {ds : List D} {xs : List V}, RepL K om H ds xs → RepL K om' H' ds xs
  | [], _, h => h
  | _ :: _, _, ⟨x, r, e, h, t⟩ => ⟨x, r, e, Rep.mono s h, RepL.mono s t⟩
end
theorem RepL.length : ∀ {ds : List D} {xs : List V}, RepL K om H ds xs → ds.length = xs.length
  | [], _, h => by cases h; rfl
  | _ :: _, _, ⟨_, _, e, _, t⟩ => by cases e; exact congrArg (· + 1) (RepL.length t)
theorem RepL.get : ∀ {ds : List D} {xs : List V} {i : Nat} {d : D}, RepL K om H ds xs → ds[i]? = some d → ∃ x, xs[i]? = some x ∧ Rep K om H d x
  | [], _, _, _, _, h => by simp at h
  | d :: ds, _, 0, _, ⟨x, r, e, q, t⟩, h => by cases e; cases h; exact ⟨x, rfl, q⟩
  | d :: ds, _, i + 1, _, ⟨x, r, e, q, t⟩, h => by
    cases e
    obtain ⟨y, h1, h2⟩ := RepL.get (i := i) t (by simpa using h)
    exact ⟨y, by simpa using h1, h2⟩
theorem RepL.getV : ∀ {ds : List D} {xs : List V} {i : Nat} {x : V}, RepL K om H ds xs → xs[i]? = some x → ∃ d, ds[i]? = some d ∧ Rep K om H d x
  | [], _, _, _, h, e => by cases h; simp at e
  | d :: ds, _, 0, _, ⟨x, r, e, q, t⟩, h => by cases e; cases h; exact ⟨d, rfl, q⟩
  | d :: ds, _, i + 1, _, ⟨x, r, e, q, t⟩, h => by
    cases e
    obtain ⟨y, h1, h2⟩ := RepL.getV (i := i) t (by simpa using h)
    exact ⟨y, by simpa using h1, h2⟩
theorem RepL.app : ∀ {ds es : List D} {xs ys : List V}, RepL K om H ds xs → RepL K om H es ys → RepL K om H (ds ++ es) (xs ++ ys)
  | [], _, _, _, h, q => by cases h; exact q
  | _ :: _, _, _, _, ⟨x, r, e, h, t⟩, q => by cases e; exact ⟨x, _, rfl, h, RepL.app t q⟩
theorem RepL.one {d : D} {x : V} (h : Rep K om H d x) : RepL K om H [d] [x] := ⟨x, [], rfl, h, rfl⟩
theorem RepL.take : ∀ {ds : List D} {xs : List V} (n : Nat), RepL K om H ds xs → RepL K om H (ds.take n) (xs.take n)
  | _, _, 0, _ => rfl
  | [], _, _ + 1, h => by cases h; rfl
  | _ :: _, _, n + 1, ⟨x, r, e, h, t⟩ => by cases e; exact ⟨x, _, rfl, h, RepL.take n t⟩
theorem RepL.drop : ∀ {ds : List D} {xs : List V} (n : Nat), RepL K om H ds xs → RepL K om H (ds.drop n) (xs.drop n)
  | _, _, 0, h => h
  | [], _, _ + 1, h => by cases h; rfl
  | _ :: _, _, n + 1, ⟨x, r, e, h, t⟩ => by cases e; exact RepL.drop n t
theorem RepL.set : ∀ {ds : List D} {xs : List V} (n : Nat) {d : D} {x : V}, RepL K om H ds xs → Rep K om H d x → RepL K om H (ds.set n d) (xs.set n x)
  | [], _, _, _, _, h, _ => by cases h; rfl
  | _ :: _, _, 0, _, _, ⟨x, r, e, h, t⟩, q => by cases e; exact ⟨_, _, rfl, q, t⟩
  | _ :: _, _, n + 1, _, _, ⟨x, r, e, h, t⟩, q => by cases e; exact ⟨_, _, rfl, h, RepL.set n t q⟩
theorem RepL.ints : ∀ {ns : List Int} {xs : List V}, RepL K om H (ns.map D.int) xs → xs = ns.map V.int
  | [], _, h => h
  | _ :: _, _, ⟨x, r, e, h, t⟩ => by cases e; cases h; rw [RepL.ints t]; rfl
theorem RepL.of_ints : ∀ {ns : List Int}, RepL K om H (ns.map D.int) (ns.map V.int)
  | [] => rfl
  | _ :: _ => ⟨_, _, rfl, rfl, RepL.of_ints⟩
theorem RepL.strs : ∀ {ns : List Str} {xs : List V}, RepL K om H (ns.map D.str) xs → xs = ns.map V.str
  | [], _, h => h
  | _ :: _, _, ⟨x, r, e, h, t⟩ => by cases e; cases h; rw [RepL.strs t]; rfl
theorem RepL.of_strs : ∀ {ns : List Str}, RepL K om H (ns.map D.str) (ns.map V.str)
  | [] => rfl
  | _ :: _ => ⟨_, _, rfl, rfl, RepL.of_strs⟩
theorem RepL.bls : ∀ {ns : List Bool} {xs : List V}, RepL K om H (ns.map D.bl) xs → xs = ns.map V.bl
  | [], _, h => h
  | _ :: _, _, ⟨x, r, e, h, t⟩ => by cases e; cases h; rw [RepL.bls t]; rfl

/-- the fields of an exception, in the dict at d -/
def XdOk (K : PySem.W.Frag) (om : Om) (H : Hp) : Option Addr → List (Str × D) → Prop
  | none, fs => fs = []
  | some d, fs => ∃ fs' : List (Str × V), H d = some (.xd fs') ∧ om d = none ∧ fs'.map (·.1) = fs.map (·.1) ∧ RepL K om H (fs.map (·.2)) (fs'.map (·.2))
theorem XdOk.mono (s : Stable om H om' H') : ∀ {d : Option Addr} {fs : List (Str × D)}, XdOk K om H d fs → XdOk K om' H' d fs
  | none, _, h => h
  | some _, _, ⟨fs', h, n, k, r⟩ => ⟨fs', (s _ _ h n).1, (s _ _ h n).2, k, r.mono s⟩
/-- an exception that was caught, at a: its class is at C, its dict at d -/
def ExH (C : Addr) (d : Option Addr) (a : Addr) : HO := .ext fun h => ∃ (oe : Obj) (vs : Array Value), h.get? a = some oe ∧ Zc (.ref C) d oe ∧ oe.data = .fields vs
/-- an object of the store -/
def OO (K : PySem.W.Frag) (om : Om) (H : Hp) (a : Addr) : DO → Prop
  | .lst ds => ∃ xs, H a = some (.lst xs) ∧ RepL K om H ds xs
  | .dct kvs => ∃ kvs' : List (Key × V), H a = some (.dK kvs') ∧ kvs'.map (·.1) = kvs.map (·.1) ∧ RepL K om H (kvs.map (·.2)) (kvs'.map (·.2))
  | .ins C fs => ∃ dx, ∃ fs' : List (Str × V), H a = some (.ins C dx fs') ∧ fs'.map (·.1) = fs.map (·.1) ∧ RepL K om H (fs.map (·.2)) (fs'.map (·.2))
  | .exc C fs => ∃ d, H a = some (ExH C d a) ∧ XdOk K om H d fs
def StoreOk (K : PySem.W.Frag) (om : Om) (H : Hp) : Prop := ∀ a o, om a = some o → OO K om H a o
theorem OO.there {a : Addr} {o : DO} (h : OO K om H a o) : ∃ u, H a = some u := by
  cases o with
  | lst ds => obtain ⟨_, e, _⟩ := h; exact ⟨_, e⟩
  | dct kvs => obtain ⟨_, e, _⟩ := h; exact ⟨_, e⟩
  | ins C fs => obtain ⟨_, _, e, _⟩ := h; exact ⟨_, e⟩
  | exc C fs => obtain ⟨_, e, _⟩ := h; exact ⟨_, e⟩
theorem StoreOk.fresh (h : StoreOk K om H) {a : Addr} (n : H a = none) : om a = none := by
  cases q : om a with
  | none => rfl
  | some o =>
    obtain ⟨u, e⟩ := (h a o q).there
    rw [n] at e
    cases e
/-- an object whose place of the heap stays keeps its word under a stable change -/
theorem OO.mono {a : Addr} {o : DO} (s : Stable om H om' H') (e : H' a = H a) (h : OO K om H a o) : OO K om' H' a o := by
  cases o with
  | lst ds => obtain ⟨xs, h1, r⟩ := h; exact ⟨xs, e.trans h1, RepL.mono s r⟩
  | dct kvs => obtain ⟨xs, h1, k, r⟩ := h; exact ⟨xs, e.trans h1, k, RepL.mono s r⟩
  | ins C fs => obtain ⟨dx, xs, h1, k, r⟩ := h; exact ⟨dx, xs, e.trans h1, k, RepL.mono s r⟩
  | exc C fs => obtain ⟨d, h1, x⟩ := h; exact ⟨d, e.trans h1, x.mono s⟩
/-- a new thing that is no object of the store -/
theorem Stable.new {p : Addr} {u : HO} (h : H p = none) : Stable om H om (upd H p u) := fun a o e n => by
  rw [upd_ne (ne_of_none e h)]
  exact ⟨e, n⟩
theorem StoreOk.new {p : Addr} {u : HO} (S : StoreOk K om H) (h : H p = none) : StoreOk K om (upd H p u) := fun a o e => by
  obtain ⟨w, hw⟩ := (S a o e).there
  exact (S a o e).mono (Stable.new h) (upd_ne (ne_of_none hw h))
/-- an object of the store is written: om' and H' at a alone -/
theorem Stable.put {a : Addr} {o u : DO} {x : HO} (h : om a = some u) : Stable om H (ups om a o) (upd H a x) := fun b w e n => by
  have ne : b ≠ a := fun z => by subst z; rw [h] at n; cases n
  rw [upd_ne ne, ups_ne ne]
  exact ⟨e, n⟩
theorem StoreOk.put {a : Addr} {o u : DO} {x : HO} (S : StoreOk K om H) (h : om a = some u) (new : OO K (ups om a o) (upd H a x) a o) : StoreOk K (ups om a o) (upd H a x) := fun b w e => by
  by_cases z : b = a
  · subst z
    rw [ups_same] at e
    cases e
    exact new
  · rw [ups_ne z] at e
    exact (S b w e).mono (Stable.put h) (upd_ne z)
/-- a new object of the store -/
theorem Stable.mk {a : Addr} {o : DO} {x : HO} (h : H a = none) : Stable om H (ups om a o) (upd H a x) := fun b w e n => by
  have ne : b ≠ a := ne_of_none e h
  rw [upd_ne ne, ups_ne ne]
  exact ⟨e, n⟩
theorem StoreOk.mk {a : Addr} {o : DO} {x : HO} (S : StoreOk K om H) (h : H a = none) (new : OO K (ups om a o) (upd H a x) a o) : StoreOk K (ups om a o) (upd H a x) := fun b w e => by
  by_cases z : b = a
  · subst z
    rw [ups_same] at e
    cases e
    exact new
  · rw [ups_ne z] at e
    obtain ⟨w', hw⟩ := (S b w e).there
    exact (S b w e).mono (Stable.mk h) (upd_ne z)
/-- an object leaves the store: it is a tree from now on -/
theorem Stable.del {a : Addr} : Stable om H (dels om a) H := fun b w e n => by
  refine ⟨e, ?_⟩
  by_cases z : b = a
  · subst z; exact dels_same
  · rw [dels_ne z]; exact n
theorem StoreOk.del {a : Addr} (S : StoreOk K om H) : StoreOk K (dels om a) H := fun b w e => by
  by_cases z : b = a
  · subst z; rw [dels_same] at e; cases e
  · rw [dels_ne z] at e
    exact (S b w e).mono Stable.del rfl

/-- the slots of a frame -/
abbrev Ro := List (Option D)
structure Ok (K : PySem.W.Frag) (om0 : Om) (H0 : Hp) (om : Om) (H : Hp) (σ : L2.St) (ro : Ro) : Prop where
  store : StoreOk K om H
  stab : Stable om0 H0 om H
  slot : ∀ (i : Nat) (d : D), ro[i]? = some (some d) → ∃ v, σ[i]? = some (some v) ∧ Rep K om H d v
  len : σ.length = ro.length
theorem Ok.base {om0 om1 : Om} {H0 H1 : Hp} {σ : L2.St} {ro : Ro} (o : Ok K om0 H0 om H σ ro) : Ok K om H om H σ ro := ⟨o.store, Stable.refl, o.slot, o.len⟩
theorem Ok.up {om0 om1 : Om} {H0 H1 : Hp} {σ : L2.St} {ro : Ro} (s : Stable om0 H0 om1 H1) (o : Ok K om1 H1 om H σ ro) : Ok K om0 H0 om H σ ro := ⟨o.store, s.trans o.stab, o.slot, o.len⟩
theorem Ok.to {om0 : Om} {H0 : Hp} {σ : L2.St} {ro : Ro} (o : Ok K om0 H0 om H σ ro) (S : StoreOk K om' H') (s : Stable om H om' H') : Ok K om0 H0 om' H' σ ro :=
  ⟨S, o.stab.trans s, fun i d e => let ⟨v, a, r⟩ := o.slot i d e; ⟨v, a, r.mono s⟩, o.len⟩
theorem Ok.set {om0 : Om} {H0 : Hp} {σ : L2.St} {ro : Ro} (o : Ok K om0 H0 om H σ ro) (i : Nat) {d : D} {v : V} (r : Rep K om H d v) : Ok K om0 H0 om H (σ.set i (some v)) (ro.set i (some d)) := by
  refine ⟨o.store, o.stab, fun j e h => ?_, by rw [List.length_set, List.length_set]; exact o.len⟩
  by_cases z : i = j
  · subst z
    have hl : i < ro.length := by
      have := (List.getElem?_eq_some_iff.mp h).1
      rwa [List.length_set] at this
    rw [List.getElem?_set_self hl] at h
    cases h
    exact ⟨v, List.getElem?_set_self (by rw [o.len]; exact hl), r⟩
  · rw [List.getElem?_set_ne z] at h
    rw [List.getElem?_set_ne z]
    exact o.slot j e h
theorem Ok.unset {om0 : Om} {H0 : Hp} {σ : L2.St} {ro : Ro} (o : Ok K om0 H0 om H σ ro) (i : Nat) : Ok K om0 H0 om H (σ.set i none) (ro.set i none) := by
  refine ⟨o.store, o.stab, fun j e h => ?_, by rw [List.length_set, List.length_set]; exact o.len⟩
  by_cases z : i = j
  · subst z
    have hl : i < ro.length := by
      have := (List.getElem?_eq_some_iff.mp h).1
      rwa [List.length_set] at this
    rw [List.getElem?_set_self hl] at h
    cases h
  · rw [List.getElem?_set_ne z] at h
    rw [List.getElem?_set_ne z]
    exact o.slot j e h
theorem Ok.weak {om0 : Om} {H0 : Hp} {σ : L2.St} {ro ro' : Ro} (o : Ok K om0 H0 om H σ ro) (hl : ro'.length = ro.length) (h : ∀ (i : Nat) (d : D), ro'[i]? = some (some d) → ro[i]? = some (some d)) : Ok K om0 H0 om H σ ro' :=
  ⟨o.store, o.stab, fun i d e => o.slot i d (h i d e), o.len.trans hl.symm⟩
end
end Mo

set_option Elab.async false
set_option linter.all false
set_option maxRecDepth 100000
set_option maxHeartbeats 4000000
set_option autoImplicit false
/-! The judgements over data: what an expression, a test, a list of arguments, a block of statements is worth. -/
namespace Mo
open PySem PySem.Spec PyProof.Rows L2

/-! ### the weakest readings -/
section
variable (X : Cx)
def pE (e : Expr) : TE := fun σ H Q => ∀ (pins : List (Addr × Obj)) (s : Shared), Inv X pins σ H s → wpAny (model X.prog X.w) X.A (eval e X.env) (EP X pins σ Q) X.xe s
def pT (e : Expr) : TT := fun σ H Q => ∀ (pins : List (Addr × Obj)) (s : Shared), Inv X pins σ H s → wpAny (model X.prog X.w) X.A (isTrue e X.env (eval e X.env)) (TP X pins σ Q) X.xe s
def pA (es : List Expr) : TA := fun σ H Q => ∀ (pos : Pos) (pins : List (Addr × Obj)) (s : Shared), Inv X pins σ H s → wpAny (model X.prog X.w) X.A (spliced (backTo pos (starEach es X.env))) (AP X pins σ Q) X.xe s
def pS (st : Stmt) : TS := fun D σ H => ∀ (pins : List (Addr × Obj)) (s : Shared), Inv X pins σ H s → wpAny (model X.prog X.w) X.A (exec st X.env) (SP X pins D) X.xe s
def pSs (sts : List Stmt) : TS := fun D σ H => ∀ (pins : List (Addr × Obj)) (s : Shared), Inv X pins σ H s → wpAny (model X.prog X.w) X.A (execs sts X.env) (SP X pins D) X.xe s
def pI (tg iter : Expr) : TI := fun σ H R => ∀ (pins : List (Addr × Obj)) (s : Shared), Inv X pins σ H s →
  wpAny (model X.prog X.w) X.A (eval iter X.env) (fun v s1 => wpAny (model X.prog X.w) X.A (pyIter v) (PIE X pins σ tg R) X.xe s1) X.xe s
end
section
variable {X : Cx} {e : Expr} {es : List Expr} {st : Stmt} {sts : List Stmt} {σ : L2.St} {H : Hp}
theorem pE_pe : PE X e (pE X e) := ⟨fun pins s _ _ _ I h => h pins s I⟩
theorem pT_pt : PT X e (pT X e) := ⟨fun pins s _ _ _ I h => h pins s I⟩
theorem pA_pa : PA X es (pA X es) := ⟨fun pos pins s _ _ _ I h => h pos pins s I⟩
theorem pS_ps : PS X st (pS X st) := ⟨fun pins s _ _ _ I h => h pins s I⟩
theorem pSs_ps : PSs X sts (pSs X sts) := ⟨fun pins s _ _ _ I h => h pins s I⟩
theorem pI_pi {tg iter : Expr} : PI X tg iter (pI X tg iter) := ⟨fun pins s _ _ _ I h => h pins s I⟩
theorem pE_of {t : TE} (h : PE X e t) {Q : VK} (q : t σ H Q) : pE X e σ H Q := fun pins s I => h.run pins s σ H Q I q
theorem pT_of {t : TT} (h : PT X e t) {Q : Bool → Hp → Prop} (q : t σ H Q) : pT X e σ H Q := fun pins s I => h.run pins s σ H Q I q
theorem pA_of {t : TA} (h : PA X es t) {Q : List V → Hp → Prop} (q : t σ H Q) : pA X es σ H Q := fun pos pins s I => h.run pos pins s σ H Q I q
theorem pS_of {t : TS} (h : PS X st t) {D : Ends} (q : t D σ H) : pS X st D σ H := fun pins s I => h.run pins s σ H D I q
theorem pSs_of {t : TS} (h : PSs X sts t) {D : Ends} (q : t D σ H) : pSs X sts D σ H := fun pins s I => h.run pins s σ H D I q
theorem pI_of {tg iter : Expr} {t : TI} (h : PI X tg iter t) {R : It → Hp → Prop} (q : t σ H R) : pI X tg iter σ H R := fun pins s I => h.run pins s σ H R I q
theorem pE_mono {Q Q' : VK} (h : pE X e σ H Q) (k : ∀ v H', Q v H' → Q' v H') : pE X e σ H Q' := fun pins s I =>
  thn (h pins s I) fun u s' ⟨v, H', I', r, q⟩ => ⟨v, H', I', r, k v H' q⟩
theorem pT_mono {Q Q' : Bool → Hp → Prop} (h : pT X e σ H Q) (k : ∀ v H', Q v H' → Q' v H') : pT X e σ H Q' := fun pins s I =>
  thn (h pins s I) fun u s' ⟨H', I', q⟩ => ⟨H', I', k u H' q⟩
theorem pA_mono {Q Q' : List V → Hp → Prop} (h : pA X es σ H Q) (k : ∀ v H', Q v H' → Q' v H') : pA X es σ H Q' := fun pos pins s I =>
  thn (h pos pins s I) fun u s' ⟨v, H', I', r, q⟩ => ⟨v, H', I', r, k v H' q⟩
/-- one end is stronger than the other -/
structure EndsLe (D D' : Ends) : Prop where
  nx : ∀ σ H, D.nx σ H → D'.nx σ H
  rt : ∀ v H, D.rt v H → D'.rt v H
  bk : ∀ σ H, D.bk σ H → D'.bk σ H
  ct : ∀ σ H, D.ct σ H → D'.ct σ H
theorem SP_mono {pins : List (Addr × Obj)} {D D' : Ends} (l : EndsLe D D') {f : Flow} {s' : Shared} (h : SP X pins D f s') : SP X pins D' f s' := by
  cases f with
  | next => obtain ⟨σ', H', I', q⟩ := h; exact ⟨σ', H', I', l.nx _ _ q⟩
  | brk => obtain ⟨σ', H', I', q⟩ := h; exact ⟨σ', H', I', l.bk _ _ q⟩
  | cont => obtain ⟨σ', H', I', q⟩ := h; exact ⟨σ', H', I', l.ct _ _ q⟩
  | ret u => obtain ⟨v, σ', H', I', r, q⟩ := h; exact ⟨v, σ', H', I', r, l.rt _ _ q⟩
theorem pS_mono {D D' : Ends} (h : pS X st D σ H) (l : EndsLe D D') : pS X st D' σ H := fun pins s I => thn (h pins s I) fun _ _ q => SP_mono l q
theorem pSs_mono {D D' : Ends} (h : pSs X sts D σ H) (l : EndsLe D D') : pSs X sts D' σ H := fun pins s I => thn (h pins s I) fun _ _ q => SP_mono l q
/-- the heap's own facts, ahead of a step -/
theorem pE_inv {Q : VK} (h : (∀ pins s, Inv X pins σ H s → pE X e σ H Q)) : pE X e σ H Q := fun pins s I => h pins s I pins s I
end

/-! ### the judgements -/
abbrev RX := Value → List (Str × D) → Ro → Om → Prop
def Wof (K : PySem.W.Frag) (om0 : Om) (H0 : Hp) (R : RX) : WX := fun c d σ H => ∃ fs ro om, R c fs ro om ∧ Ok K om0 H0 om H σ ro ∧ XdOk K om H d fs
theorem Wof.imp {K : PySem.W.Frag} {om0 om1 : Om} {H0 H1 : Hp} {R R' : RX} (s : Stable om0 H0 om1 H1) (h : ∀ c fs ro om, R c fs ro om → R' c fs ro om) :
    ∀ c d σ H, Wof K om1 H1 R c d σ H → Wof K om0 H0 R' c d σ H := fun c d σ H ⟨fs, ro, om, r, o, x⟩ => ⟨fs, ro, om, h _ _ _ _ r, ⟨o.store, s.trans o.stab, o.slot, o.len⟩, x⟩
def Tk (X : Cx) (om0 : Om) (H0 : Hp) (R : RX) : Prop := Takes X (Wof X.K om0 H0 R)
theorem Tk.at {X : Cx} {om0 om1 : Om} {H0 H1 : Hp} {R : RX} (t : Tk X om0 H0 R) (s : Stable om0 H0 om1 H1) : Tk X om1 H1 R := Takes.imp t (Wof.imp s fun _ _ _ _ h => h)
theorem Tk.less {X : Cx} {om0 : Om} {H0 : Hp} {R R' : RX} (t : Tk X om0 H0 R) (h : ∀ c fs ro om, R' c fs ro om → R c fs ro om) : Tk X om0 H0 R' := Takes.imp t (Wof.imp Stable.refl h)
theorem Tk.no {X : Cx} {om0 : Om} {H0 : Hp} : Tk X om0 H0 (fun _ _ _ _ => False) := fun u s' x => by
  obtain ⟨_, _, _, _, _, _, _, _, _, _, _, _, _, _, _, _, z⟩ := x
  obtain ⟨_, _, _, f, _⟩ := z
  exact f.elim

abbrev DK := D → Om → Prop
/-- an expression -/
structure we (X : Cx) (R : RX) (ro : Ro) (om : Om) (e : Expr) (Q : DK) : Prop where
  go : ∀ (om0 : Om) (H0 : Hp), Tk X om0 H0 R → ∀ (σ : L2.St) (H : Hp), Ok X.K om0 H0 om H σ ro →   pE X e σ H fun v H' => ∃ d om', Q d om' ∧ Ok X.K om0 H0 om' H' σ ro ∧ Rep X.K om' H' d v
instance {X : Cx} {R : RX} {ro : Ro} {om : Om} {e : Expr} {Q : DK} : CoeFun (we X R ro om e Q) (fun _ => ∀ (om0 : Om) (H0 : Hp), Tk X om0 H0 R → ∀ (σ : L2.St) (H : Hp), Ok X.K om0 H0 om H σ ro →   pE X e σ H fun v H' => ∃ d om', Q d om' ∧ Ok X.K om0 H0 om' H' σ ro ∧ Rep X.K om' H' d v) := ⟨we.go⟩
structure wt (X : Cx) (R : RX) (ro : Ro) (om : Om) (e : Expr) (Q : Bool → Om → Prop) : Prop where
  go : ∀ (om0 : Om) (H0 : Hp), Tk X om0 H0 R → ∀ (σ : L2.St) (H : Hp), Ok X.K om0 H0 om H σ ro →   pT X e σ H fun b H' => ∃ om', Q b om' ∧ Ok X.K om0 H0 om' H' σ ro
instance {X : Cx} {R : RX} {ro : Ro} {om : Om} {e : Expr} {Q : Bool → Om → Prop} : CoeFun (wt X R ro om e Q) (fun _ => ∀ (om0 : Om) (H0 : Hp), Tk X om0 H0 R → ∀ (σ : L2.St) (H : Hp), Ok X.K om0 H0 om H σ ro →   pT X e σ H fun b H' => ∃ om', Q b om' ∧ Ok X.K om0 H0 om' H' σ ro) := ⟨wt.go⟩
structure wa (X : Cx) (R : RX) (ro : Ro) (om : Om) (es : List Expr) (Q : List D → Om → Prop) : Prop where
  go : ∀ (om0 : Om) (H0 : Hp), Tk X om0 H0 R → ∀ (σ : L2.St) (H : Hp), Ok X.K om0 H0 om H σ ro →   pA X es σ H fun vs H' => ∃ ds om', Q ds om' ∧ Ok X.K om0 H0 om' H' σ ro ∧ RepL X.K om' H' ds vs
instance {X : Cx} {R : RX} {ro : Ro} {om : Om} {es : List Expr} {Q : List D → Om → Prop} : CoeFun (wa X R ro om es Q) (fun _ => ∀ (om0 : Om) (H0 : Hp), Tk X om0 H0 R → ∀ (σ : L2.St) (H : Hp), Ok X.K om0 H0 om H σ ro →   pA X es σ H fun vs H' => ∃ ds om', Q ds om' ∧ Ok X.K om0 H0 om' H' σ ro ∧ RepL X.K om' H' ds vs) := ⟨wa.go⟩
structure De where
  nx : Ro → Om → Prop
  rt : DK
  bk : Ro → Om → Prop
  ct : Ro → Om → Prop
  ex : RX
def ends (K : PySem.W.Frag) (om0 : Om) (H0 : Hp) (D : De) : Ends where
  nx := fun σ H => ∃ ro om, D.nx ro om ∧ Ok K om0 H0 om H σ ro
  rt := fun v H => ∃ d om, D.rt d om ∧ StoreOk K om H ∧ Stable om0 H0 om H ∧ Rep K om H d v
  bk := fun σ H => ∃ ro om, D.bk ro om ∧ Ok K om0 H0 om H σ ro
  ct := fun σ H => ∃ ro om, D.ct ro om ∧ Ok K om0 H0 om H σ ro
/-- a statement, a block -/
structure w1 (X : Cx) (D : De) (ro : Ro) (om : Om) (st : Stmt) : Prop where
  go : ∀ (om0 : Om) (H0 : Hp), Tk X om0 H0 D.ex → ∀ (σ : L2.St) (H : Hp), Ok X.K om0 H0 om H σ ro → pS X st (ends X.K om0 H0 D) σ H
instance {X : Cx} {D : De} {ro : Ro} {om : Om} {st : Stmt} : CoeFun (w1 X D ro om st) (fun _ => ∀ (om0 : Om) (H0 : Hp), Tk X om0 H0 D.ex → ∀ (σ : L2.St) (H : Hp), Ok X.K om0 H0 om H σ ro → pS X st (ends X.K om0 H0 D) σ H) := ⟨w1.go⟩
structure ws (X : Cx) (D : De) (ro : Ro) (om : Om) (sts : List Stmt) : Prop where
  go : ∀ (om0 : Om) (H0 : Hp), Tk X om0 H0 D.ex → ∀ (σ : L2.St) (H : Hp), Ok X.K om0 H0 om H σ ro → pSs X sts (ends X.K om0 H0 D) σ H
instance {X : Cx} {D : De} {ro : Ro} {om : Om} {sts : List Stmt} : CoeFun (ws X D ro om sts) (fun _ => ∀ (om0 : Om) (H0 : Hp), Tk X om0 H0 D.ex → ∀ (σ : L2.St) (H : Hp), Ok X.K om0 H0 om H σ ro → pSs X sts (ends X.K om0 H0 D) σ H) := ⟨ws.go⟩
structure DeLe (D D' : De) : Prop where
  nx : ∀ ro om, D.nx ro om → D'.nx ro om
  rt : ∀ d om, D.rt d om → D'.rt d om
  bk : ∀ ro om, D.bk ro om → D'.bk ro om
  ct : ∀ ro om, D.ct ro om → D'.ct ro om
  ex : ∀ c fs ro om, D.ex c fs ro om → D'.ex c fs ro om
theorem ends_le {K : PySem.W.Frag} {om0 : Om} {H0 : Hp} {D D' : De} (l : DeLe D D') : EndsLe (ends K om0 H0 D) (ends K om0 H0 D') :=
  ⟨fun _ _ ⟨ro, om, h, o⟩ => ⟨ro, om, l.nx _ _ h, o⟩, fun _ _ ⟨d, om, h, o⟩ => ⟨d, om, l.rt _ _ h, o⟩, fun _ _ ⟨ro, om, h, o⟩ => ⟨ro, om, l.bk _ _ h, o⟩, fun _ _ ⟨ro, om, h, o⟩ => ⟨ro, om, l.ct _ _ h, o⟩⟩

section
variable {X : Cx} {R R' : RX} {ro : Ro} {om : Om} {e : Expr} {es : List Expr} {st : Stmt} {sts : List Stmt} {F : De}
theorem we_mono {Q Q' : DK} (h : we X R ro om e Q) (k : ∀ d om', Q d om' → Q' d om') : we X R ro om e Q' := .mk fun om0 H0 t σ H o =>
  pE_mono (h om0 H0 t σ H o) fun _ _ ⟨d, om', q, r⟩ => ⟨d, om', k _ _ q, r⟩
theorem wt_mono {Q Q' : Bool → Om → Prop} (h : wt X R ro om e Q) (k : ∀ d om', Q d om' → Q' d om') : wt X R ro om e Q' := .mk fun om0 H0 t σ H o =>
  pT_mono (h om0 H0 t σ H o) fun _ _ ⟨om', q, r⟩ => ⟨om', k _ _ q, r⟩
theorem wa_mono {Q Q' : List D → Om → Prop} (h : wa X R ro om es Q) (k : ∀ d om', Q d om' → Q' d om') : wa X R ro om es Q' := .mk fun om0 H0 t σ H o =>
  pA_mono (h om0 H0 t σ H o) fun _ _ ⟨d, om', q, r⟩ => ⟨d, om', k _ _ q, r⟩
theorem we_ex {Q : DK} (h : we X R ro om e Q) (k : ∀ c fs ro om, R c fs ro om → R' c fs ro om) : we X R' ro om e Q := .mk fun om0 H0 t σ H o => h om0 H0 (t.less k) σ H o
theorem wt_ex {Q : Bool → Om → Prop} (h : wt X R ro om e Q) (k : ∀ c fs ro om, R c fs ro om → R' c fs ro om) : wt X R' ro om e Q := .mk fun om0 H0 t σ H o => h om0 H0 (t.less k) σ H o
theorem ws_mono {D D' : De} (h : ws X D ro om sts) (l : DeLe D D') : ws X D' ro om sts := .mk fun om0 H0 t σ H o => pSs_mono (h om0 H0 (t.less l.ex) σ H o) (ends_le l)
theorem w1_mono {D D' : De} (h : w1 X D ro om st) (l : DeLe D D') : w1 X D' ro om st := .mk fun om0 H0 t σ H o => pS_mono (h om0 H0 (t.less l.ex) σ H o) (ends_le l)

/-- a block: its first statement, then the rest -/
theorem ws_cons {rest : List Stmt} (h : w1 X { F with nx := fun ro' om' => ws X F ro' om' rest } ro om st) : ws X F ro om (st :: rest) := .mk fun om0 H0 t σ H o => by
  refine pSs_of (pss_cons pS_ps pSs_ps) ?_
  show pS X st { ends X.K om0 H0 F with nx := pSs X rest (ends X.K om0 H0 F) } σ H
  refine pS_mono (h om0 H0 t σ H o) ⟨fun σ' H' ⟨ro', om', q, o'⟩ => q om0 H0 t σ' H' o', fun _ _ q => q, fun _ _ q => q, fun _ _ q => q⟩
theorem ws_nil (h : F.nx ro om) : ws X F ro om [] := .mk fun om0 H0 t σ H o => pSs_of pss_nil (show (ends X.K om0 H0 F).nx σ H from ⟨ro, om, h, o⟩)
theorem ws_one (h : w1 X F ro om st) : ws X F ro om [st] := .mk fun om0 H0 t σ H o => pSs_of (pss_one pS_ps) (h om0 H0 t σ H o)
/-- what holds of a pure value: wherever it is wanted -/
structure wv (X : Cx) (ro : Ro) (om : Om) (e : Expr) (d : D) : Prop where
  go : ∀ (R : RX) (Q : DK), Q d om → we X R ro om e Q
instance {X : Cx} {ro : Ro} {om : Om} {e : Expr} {d : D} : CoeFun (wv X ro om e d) (fun _ => ∀ (R : RX) (Q : DK), Q d om → we X R ro om e Q) := ⟨wv.go⟩
structure wtv (X : Cx) (ro : Ro) (om : Om) (e : Expr) (b : Bool) : Prop where
  go : ∀ (R : RX) (Q : Bool → Om → Prop), Q b om → wt X R ro om e Q
instance {X : Cx} {ro : Ro} {om : Om} {e : Expr} {b : Bool} : CoeFun (wtv X ro om e b) (fun _ => ∀ (R : RX) (Q : Bool → Om → Prop), Q b om → wt X R ro om e Q) := ⟨wtv.go⟩
structure wav (X : Cx) (ro : Ro) (om : Om) (es : List Expr) (ds : List D) : Prop where
  go : ∀ (R : RX) (Q : List D → Om → Prop), Q ds om → wa X R ro om es Q
instance {X : Cx} {ro : Ro} {om : Om} {es : List Expr} {ds : List D} : CoeFun (wav X ro om es ds) (fun _ => ∀ (R : RX) (Q : List D → Om → Prop), Q ds om → wa X R ro om es Q) := ⟨wav.go⟩
theorem wv_is {d d' : D} (h : wv X ro om e d) (q : d = d') : wv X ro om e d' := q ▸ h
theorem wtv_is {d d' : Bool} (h : wtv X ro om e d) (q : d = d') : wtv X ro om e d' := q ▸ h

/-! ### names, constants -/
theorem v_name (i : Nat) {x : Str} {pos : Pos} {d : D} (hN : X.N[i]? = some x) (h : ro[i]? = some (some d)) (hv : Vis X.env.scope x) (hd : (x == ("__debug__" : Str)) = false := by decide) (hcd : (x == ("__classdict__" : Str)) = false := by decide) :
    wv X ro om (.Name x pos) d := .mk fun R Q q => .mk fun om0 H0 t σ H o => by
  obtain ⟨v, hs, r⟩ := o.slot i d h
  exact pE_of (pe_var hN hv hd hcd) ⟨v, hs, d, om, q, o, r⟩
theorem v_int {i : Int} {j : Nat} {pos : Pos} : wv X ro om (.Constant (.int i) j pos) (.int i) := .mk fun R Q q => .mk fun om0 H0 t σ H o => pE_of pe_int ⟨.int i, om, q, o, rfl⟩
theorem v_bl {b : Bool} {j : Nat} {pos : Pos} : wv X ro om (.Constant (.bool b) j pos) (.bl b) := .mk fun R Q q => .mk fun om0 H0 t σ H o => pE_of pe_bl ⟨.bl b, om, q, o, rfl⟩
theorem v_non {j : Nat} {pos : Pos} : wv X ro om (.Constant .none j pos) .non := .mk fun R Q q => .mk fun om0 H0 t σ H o => pE_of pe_non ⟨.non, om, q, o, rfl⟩
theorem v_str {x : Str} {j : Nat} {pos : Pos} : wv X ro om (.Constant (.str x) j pos) (.str x) := .mk fun R Q q => .mk fun om0 H0 t σ H o => pE_of pe_str ⟨.str x, om, q, o, rfl⟩
/-- a constant of the module -/
theorem v_glob {x : Str} {pos : Pos} {d : D} {v : V} {u : Value} (hm : X.mg x = some u) (r : RelV v u) (k : ∀ om H, Rep X.K om H d v) (hg : Gl X x) (hd : (x == ("__debug__" : Str)) = false := by decide) : wv X ro om (.Name x pos) d := .mk fun R Q q => .mk fun om0 H0 t σ H o =>
  pE_of (pe_glob hg hm r hd) ⟨d, om, q, o, k om H⟩

/-! ### arguments -/
theorem a_nil {Q : List D → Om → Prop} (q : Q [] om) : wa X R ro om [] Q := .mk fun om0 H0 t σ H o => pA_of pa_nil ⟨[], om, q, o, rfl⟩
theorem a_cons {Q : List D → Om → Prop} (h : we X R ro om e fun d om1 => wa X R ro om1 es fun ds om2 => Q (d :: ds) om2)
    (hs : starEach (e :: es) X.env = (false, eval e X.env) :: starEach es X.env := by rfl) : wa X R ro om (e :: es) Q := .mk fun om0 H0 t σ H o => by
  refine pA_of (pa_cons pE_pe pA_pa hs) ?_
  refine pE_mono (h om0 H0 t σ H o) fun v H1 ⟨d, om1, q, o1, r⟩ => ?_
  refine pA_mono (q om1 H1 (t.at o1.stab) σ H1 ⟨o1.store, Stable.refl, o1.slot, o1.len⟩) fun vs H2 ⟨ds, om2, q2, o2, r2⟩ => ?_
  exact ⟨d :: ds, om2, q2, ⟨o2.store, o1.stab.trans o2.stab, o2.slot, o2.len⟩, _, _, rfl, r.mono o2.stab, r2⟩
theorem av_nil : wav X ro om [] [] := .mk fun R Q q => a_nil q
theorem av_cons {d : D} {ds : List D} (h : wv X ro om e d) (k : wav X ro om es ds) (hs : starEach (e :: es) X.env = (false, eval e X.env) :: starEach es X.env := by rfl) : wav X ro om (e :: es) (d :: ds) := .mk fun R Q q =>
  a_cons (h R _ (k R _ q)) hs

/-! ### two-place operators -/
/-- the weakest reading of an operator -/
def wR (X : Cx) (f : Value → Value → Sem Value) : R2 := fun x y H Q => ∀ (pins : List (Addr × Obj)) (s : Shared) (σ : L2.St) (v u : Value), Inv X pins σ H s → RelV x v → RelV y u → wpAny (model X.prog X.w) X.A (f v u) (EP X pins σ Q) X.xe s
theorem wR_op {f : Value → Value → Sem Value} : OpR X f (wR X f) := fun pins s σ H x y v u Q I rx ry h => h pins s σ v u I rx ry
theorem wR_of {f : Value → Value → Sem Value} {r : R2} (h : OpR X f r) {x y : V} {H : Hp} {Q : VK} (q : r x y H Q) : wR X f x y H Q := fun pins s σ v u I rx ry => h pins s σ H x y v u Q I rx ry q
/-- x op y, in the store om -/
def Op2 (X : Cx) (om : Om) (f : Value → Value → Sem Value) (x y : D) (Q : DK) : Prop := ∀ (om0 : Om) (H0 : Hp) (σ : L2.St) (ro : Ro) (H : Hp) (v u : V), Ok X.K om0 H0 om H σ ro → Rep X.K om H x v → Rep X.K om H y u →
  wR X f v u H fun w H' => ∃ d om', Q d om' ∧ Ok X.K om0 H0 om' H' σ ro ∧ Rep X.K om' H' d w
theorem e_op {op : Operator} {a b : Expr} {pos : Pos} {Q : DK} (h : we X R ro om a fun x om1 => we X R ro om1 b fun y om2 => Op2 X om2 (binaryOp op) x y Q) : we X R ro om (.BinOp a op b pos) Q := .mk fun om0 H0 t σ H o => by
  refine pE_of (pe_op wR_op pE_pe pE_pe) ?_
  refine pE_mono (h om0 H0 t σ H o) fun v H1 ⟨x, om1, q, o1, r⟩ => ?_
  refine pE_mono (q om1 H1 (t.at o1.stab) σ H1 ⟨o1.store, Stable.refl, o1.slot, o1.len⟩) fun u H2 ⟨y, om2, q2, o2, r2⟩ => ?_
  exact q2 om0 H0 σ ro H2 v u ⟨o2.store, o1.stab.trans o2.stab, o2.slot, o2.len⟩ (r.mono o2.stab) r2
end
end Mo

set_option Elab.async false
set_option linter.all false
set_option maxRecDepth 100000
set_option maxHeartbeats 4000000
set_option autoImplicit false
/-! Operators, comparisons, subscripts over data. -/
namespace Mo
open PySem PySem.Spec PyProof.Rows L2

section
variable {X : Cx} {R : RX} {ro : Ro} {om : Om} {e a b c : Expr} {es : List Expr} {st : Stmt} {sts : List Stmt} {F : De} {pos : Pos} {x y z : D} {f : Value → Value → Sem Value}

/-- x op y is z, purely -/
structure Op (X : Cx) (om : Om) (f : Value → Value → Sem Value) (x y z : D) : Prop where
  go : ∀ Q : DK, Q z om → Op2 X om f x y Q
instance {X : Cx} {om : Om} {f : Value → Value → Sem Value} {x y z : D} : CoeFun (Op X om f x y z) (fun _ => ∀ Q : DK, Q z om → Op2 X om f x y Q) := ⟨Op.go⟩
theorem v_op {op : Operator} (h : wv X ro om a x) (k : wv X ro om b y) (o : Op X om (binaryOp op) x y z) : wv X ro om (.BinOp a op b pos) z := .mk fun R Q q =>
  e_op (h R _ (k R _ (o Q q)))
/-- the common case: the heap is as it was -/
theorem Op.of {r : R2} (h : OpR X f r) (k : ∀ (H : Hp) (v u : V), StoreOk X.K om H → Rep X.K om H x v → Rep X.K om H y u → ∀ Q : VK, (∀ w, Rep X.K om H z w → Q w H) → r v u H Q) : Op X om f x y z :=
  .mk fun Q q om0 H0 σ ro H v u o rx ry => wR_of h (k H v u o.store rx ry _ fun w rw => ⟨z, om, q, o, rw⟩)
/-- a new thing -/
theorem Op.new {r : R2} (h : OpR X f r) (k : ∀ (H : Hp) (v u : V), StoreOk X.K om H → Rep X.K om H x v → Rep X.K om H y u → ∀ Q : VK, (∀ w H', StoreOk X.K om H' → Stable om H om H' → Rep X.K om H' z w → Q w H') → r v u H Q) : Op X om f x y z :=
  .mk fun Q q om0 H0 σ ro H v u o rx ry => wR_of h (k H v u o.store rx ry _ fun w H' S s rw => ⟨z, om, q, o.to S s, rw⟩)
theorem o_add {i j : Int} : Op X om (binaryOp .Add) (.int i) (.int j) (.int (i + j)) := .of op_add fun H v u S rx ry Q q => by cases rx; cases ry; exact ⟨i, j, rfl, rfl, q _ rfl⟩
theorem o_sub {i j : Int} : Op X om (binaryOp .Sub) (.int i) (.int j) (.int (i - j)) := .of op_sub fun H v u S rx ry Q q => by cases rx; cases ry; exact ⟨i, j, rfl, rfl, q _ rfl⟩
theorem o_mul {i j : Int} (h : CMul i j) : Op X om (binaryOp .Mult) (.int i) (.int j) (.int (i * j)) := .of op_mul fun H v u S rx ry Q q => by cases rx; cases ry; exact ⟨i, j, rfl, rfl, h, q _ rfl⟩
theorem o_div {i j : Int} (h : CDiv i j) : Op X om (binaryOp .FloorDiv) (.int i) (.int j) (.int (i / j)) := .of op_fdiv fun H v u S rx ry Q q => by cases rx; cases ry; exact ⟨i, j, rfl, rfl, h, q _ rfl⟩
theorem o_mod {i j : Int} (h : 0 < j) : Op X om (binaryOp .Mod) (.int i) (.int j) (.int (i % j)) := .of op_mod fun H v u S rx ry Q q => by cases rx; cases ry; exact ⟨i, j, rfl, rfl, h, q _ rfl⟩
theorem o_pow {i j : Int} (h : CPow i j) : Op X om (binaryOp .Pow) (.int i) (.int j) (.int (i ^ j.toNat)) := .of op_pow fun H v u S rx ry Q q => by cases rx; cases ry; exact ⟨i, j, rfl, rfl, h, q _ rfl⟩
theorem o_addS {i j : Str} (h : i.length + j.length ≤ sizeLine) : Op X om (binaryOp .Add) (.str i) (.str j) (.str (i ++ j)) := .of op_add_str fun H v u S rx ry Q q => by cases rx; cases ry; exact ⟨i, j, rfl, rfl, h, q _ rfl⟩
/-- a list: a tree or an object of the store -/
def Lr (om : Om) (x : D) (ds : List D) : Prop := x = .lst ds ∨ ∃ p, x = .obj p ∧ om p = some (.lst ds)
theorem Lr.im {ds : List D} : Lr om (.lst ds) ds := .inl rfl
theorem Lr.ob {p : Addr} {ds : List D} (h : om p = some (.lst ds)) : Lr om (.obj p) ds := .inr ⟨p, rfl, h⟩
theorem Lr.rep {H : Hp} {K : PySem.W.Frag} {ds : List D} {v : V} (l : Lr om x ds) (S : StoreOk K om H) (r : Rep K om H x v) : ∃ p xs, v = .ref p ∧ H p = some (.lst xs) ∧ RepL K om H ds xs := by
  rcases l with rfl | ⟨p, rfl, h⟩
  · obtain ⟨p, xs, e, ⟨_, h⟩, q⟩ := r
    exact ⟨p, xs, e, h, q⟩
  · cases r
    obtain ⟨xs, h1, q⟩ := S _ _ h
    exact ⟨p, xs, rfl, h1, q⟩
theorem tup_rep {H : Hp} {K : PySem.W.Frag} {ds : List D} {v : V} (r : Rep K om H (.tup ds) v) : ∃ p xs, v = .ref p ∧ SqT K H p xs ∧ RepL K om H ds xs := by
  obtain ⟨p, xs, e, h, q⟩ := r
  exact ⟨p, xs, e, h.elim (fun h => .inl (.inl h.2)) .inr, q⟩
/-- a new list, a new tuple, as a tree -/
theorem new_lst {H : Hp} {K : PySem.W.Frag} {ds : List D} {xs : List V} {p : Addr} (S : StoreOk K om H) (n : H p = none) (r : RepL K om H ds xs) : Rep K om (upd H p (.lst xs)) (.lst ds) (.ref p) :=
  ⟨p, xs, rfl, ⟨S.fresh n, upd_same⟩, r.mono (Stable.new n)⟩
theorem new_tup {H : Hp} {K : PySem.W.Frag} {ds : List D} {xs : List V} {p : Addr} (S : StoreOk K om H) (n : H p = none) (r : RepL K om H ds xs) : Rep K om (upd H p (.tup xs)) (.tup ds) (.ref p) :=
  ⟨p, xs, rfl, .inl ⟨S.fresh n, upd_same⟩, r.mono (Stable.new n)⟩
theorem o_addL {ds es : List D} (l : Lr om x ds) (m : Lr om y es) (h : ds.length + es.length ≤ sizeLine) : Op X om (binaryOp .Add) x y (.lst (ds ++ es)) := .new op_cat fun H v u S rx ry Q q => by
  obtain ⟨p, xs, rfl, h1, r1⟩ := l.rep S rx
  obtain ⟨p', ys, rfl, h2, r2⟩ := m.rep S ry
  exact ⟨p, p', xs, ys, rfl, rfl, h1, h2, by rw [← r1.length, ← r2.length]; exact h, fun t n => q _ _ (S.new n) (Stable.new n) (new_lst S n (r1.app r2))⟩
theorem o_addT {ds es : List D} (hd : ds ≠ []) (he : es ≠ []) (h : ds.length + es.length ≤ sizeLine) : Op X om (binaryOp .Add) (.tup ds) (.tup es) (.tup (ds ++ es)) := .new op_catT fun H v u S rx ry Q q => by
  obtain ⟨p, xs, rfl, h1, r1⟩ := tup_rep rx
  obtain ⟨p', ys, rfl, h2, r2⟩ := tup_rep ry
  refine ⟨p, p', xs, ys, rfl, rfl, h1, h2, fun z => ?_, by rw [← r1.length, ← r2.length]; exact h, fun z => ?_, fun _ t n => q _ _ (S.new n) (Stable.new n) (new_tup S n (r1.app r2))⟩
  · subst z; exact hd (List.length_eq_zero_iff.mp r1.length)
  · subst z; exact absurd (List.length_eq_zero_iff.mp r2.length) he
theorem o_addT0 {ds : List D} (hd : ds ≠ []) (h : ds.length ≤ sizeLine) : Op X om (binaryOp .Add) (.tup ds) (.tup []) (.tup ds) := .of op_catT fun H v u S rx ry Q q => by
  obtain ⟨p, xs, rfl, h1, r1⟩ := tup_rep rx
  obtain ⟨p', ys, rfl, h2, r2⟩ := tup_rep ry
  have e : ys = [] := List.length_eq_zero_iff.mp r2.length.symm
  refine ⟨p, p', xs, ys, rfl, rfl, h1, h2, fun z => ?_, by rw [← r1.length, e]; exact h, fun _ => q _ rx, fun z => absurd e z⟩
  subst z; exact hd (List.length_eq_zero_iff.mp r1.length)

/-! ### comparisons -/
theorem e_cmp {op : CmpOp} {Q : DK} (h : we X R ro om a fun x om1 => we X R ro om1 b fun y om2 => Op2 X om2 (compareOp op) x y Q) (hm : behindInMarks op b = false := by first | exact nomark _ | rfl) : we X R ro om (.Compare a [op] [b] pos) Q := .mk fun om0 H0 t σ H o => by
  refine pE_of (pe_cmpR wR_op pE_pe pE_pe hm) ?_
  refine pE_mono (h om0 H0 t σ H o) fun v H1 ⟨x, om1, q, o1, r⟩ => ?_
  refine pE_mono (q om1 H1 (t.at o1.stab) σ H1 ⟨o1.store, Stable.refl, o1.slot, o1.len⟩) fun u H2 ⟨y, om2, q2, o2, r2⟩ => ?_
  exact q2 om0 H0 σ ro H2 v u ⟨o2.store, o1.stab.trans o2.stab, o2.slot, o2.len⟩ (r.mono o2.stab) r2
theorem t_cmp {op : CmpOp} {Q : Bool → Om → Prop} (h : we X R ro om a fun x om1 => we X R ro om1 b fun y om2 => Op2 X om2 (compareOp op) x y fun d om3 => ∃ k, d = .bl k ∧ Q k om3) (hm : behindInMarks op b = false := by first | exact nomark _ | rfl) : wt X R ro om (.Compare a [op] [b] pos) Q := .mk fun om0 H0 t σ H o => by
  refine pT_of (pt_cmpR wR_op pE_pe pE_pe hm) ?_
  refine pE_mono (h om0 H0 t σ H o) fun v H1 ⟨x, om1, q, o1, r⟩ => ?_
  refine pE_mono (q om1 H1 (t.at o1.stab) σ H1 ⟨o1.store, Stable.refl, o1.slot, o1.len⟩) fun u H2 ⟨y, om2, q2, o2, r2⟩ => ?_
  refine fun pins s σ' v' u' I rv ru => thn (q2 om0 H0 σ ro H2 v u ⟨o2.store, o1.stab.trans o2.stab, o2.slot, o2.len⟩ (r.mono o2.stab) r2 pins s σ' v' u' I rv ru) fun w s' ⟨w', H3, I3, rw, d, om3, ⟨k, ek, q3⟩, o3, r3⟩ => ?_
  subst ek
  cases r3
  exact ⟨_, H3, I3, rw, k, rfl, om3, q3, o3⟩
theorem v_cmp {op : CmpOp} (h : wv X ro om a x) (k : wv X ro om b y) (o : Op X om (compareOp op) x y z) (hm : behindInMarks op b = false := by first | exact nomark _ | rfl) : wv X ro om (.Compare a [op] [b] pos) z := .mk fun R Q q =>
  e_cmp (h R _ (k R _ (o Q q))) hm
theorem tv_cmp {op : CmpOp} {k' : Bool} (h : wv X ro om a x) (k : wv X ro om b y) (o : Op X om (compareOp op) x y (.bl k')) (hm : behindInMarks op b = false := by first | exact nomark _ | rfl) : wtv X ro om (.Compare a [op] [b] pos) k' := .mk fun R Q q =>
  t_cmp (h R _ (k R _ (o _ ⟨k', rfl, q⟩))) hm
theorem c_lt {i j : Int} : Op X om (compareOp .Lt) (.int i) (.int j) (.bl (decide (i < j))) := .of op_lt fun H v u S rx ry Q q => by cases rx; cases ry; exact ⟨i, j, rfl, rfl, q _ rfl⟩
theorem c_le {i j : Int} : Op X om (compareOp .LtE) (.int i) (.int j) (.bl (decide (i ≤ j))) := .of op_le fun H v u S rx ry Q q => by cases rx; cases ry; exact ⟨i, j, rfl, rfl, q _ rfl⟩
theorem c_gt {i j : Int} : Op X om (compareOp .Gt) (.int i) (.int j) (.bl (decide (j < i))) := .of op_gt fun H v u S rx ry Q q => by cases rx; cases ry; exact ⟨i, j, rfl, rfl, q _ rfl⟩
theorem c_ge {i j : Int} : Op X om (compareOp .GtE) (.int i) (.int j) (.bl (decide (j ≤ i))) := .of op_ge fun H v u S rx ry Q q => by cases rx; cases ry; exact ⟨i, j, rfl, rfl, q _ rfl⟩
theorem c_eqI {i j : Int} : Op X om (compareOp .Eq) (.int i) (.int j) (.bl (decide (i = j))) := .of op_eq fun H v u S rx ry Q q => by
  cases rx; cases ry
  refine ⟨rfl, q _ ?_⟩
  rw [dec_int, Bool.beq_eq_decide_eq]; rfl
theorem c_neI {i j : Int} : Op X om (compareOp .NotEq) (.int i) (.int j) (.bl (!decide (i = j))) := .of op_ne fun H v u S rx ry Q q => by
  cases rx; cases ry
  refine ⟨rfl, q _ ?_⟩
  rw [dec_int, Bool.beq_eq_decide_eq]; rfl
theorem decS {i j : Str} : decide (V.str i = V.str j) = decide (i = j) := by
  by_cases h : i = j
  · subst h; rw [decide_eq_true rfl, decide_eq_true rfl]
  · rw [decide_eq_false h, decide_eq_false fun z => h (V.str.inj z)]
theorem decB {i j : Bool} : decide (V.bl i = V.bl j) = decide (i = j) := by
  by_cases h : i = j
  · subst h; rw [decide_eq_true rfl, decide_eq_true rfl]
  · rw [decide_eq_false h, decide_eq_false fun z => h (V.bl.inj z)]
theorem c_eqS {i j : Str} : Op X om (compareOp .Eq) (.str i) (.str j) (.bl (decide (i = j))) := .of op_eq fun H v u S rx ry Q q => by
  cases rx; cases ry
  refine ⟨rfl, q _ ?_⟩
  rw [decS]; rfl
theorem c_neS {i j : Str} : Op X om (compareOp .NotEq) (.str i) (.str j) (.bl (!decide (i = j))) := .of op_ne fun H v u S rx ry Q q => by
  cases rx; cases ry
  refine ⟨rfl, q _ ?_⟩
  rw [decS]; rfl
theorem c_eqB {i j : Bool} : Op X om (compareOp .Eq) (.bl i) (.bl j) (.bl (decide (i = j))) := .of op_eq fun H v u S rx ry Q q => by
  cases rx; cases ry
  refine ⟨rfl, q _ ?_⟩
  rw [decB]; rfl
theorem c_neB {i j : Bool} : Op X om (compareOp .NotEq) (.bl i) (.bl j) (.bl (!decide (i = j))) := .of op_ne fun H v u S rx ry Q q => by
  cases rx; cases ry
  refine ⟨rfl, q _ ?_⟩
  rw [decB]; rfl
/-- is it None -/
def isN : D → Bool
  | .non => true
  | _ => false
theorem isN_rep {H : Hp} {K : PySem.W.Frag} {v : V} (r : Rep K om H x v) : decide (v = .non) = isN x := by
  cases x with
  | non => cases r; rfl
  | bl b => cases r; rfl
  | int b => cases r; rfl
  | str b => cases r; rfl
  | lst ds => obtain ⟨p, xs, rfl, _⟩ := r; rfl
  | tup ds => obtain ⟨p, xs, rfl, _⟩ := r; rfl
  | obj p => cases r; rfl
  | scr ds => obtain ⟨p, rfl, _⟩ := r; rfl
theorem c_is : Op X om (compareOp .Is) x .non (.bl (isN x)) := .of op_isN fun H v u S rx ry Q q => by
  cases ry
  refine ⟨rfl, q _ ?_⟩
  rw [isN_rep rx]; rfl
theorem c_isnot : Op X om (compareOp .IsNot) x .non (.bl (!isN x)) := .of op_notN fun H v u S rx ry Q q => by
  cases ry
  refine ⟨rfl, q _ ?_⟩
  rw [isN_rep rx]; rfl

/-! ### == of data -/
/-- what x reads as, in the store -/
inductive Pd (om : Om) : D → PyData → Prop
  | non : Pd om .non .none
  | bl (b : Bool) : Pd om (.bl b) (.bool b)
  | int (i : Int) : Pd om (.int i) (.int i)
  | str (s : Str) : Pd om (.str s) (.str s)
  | lst {ds : List D} {ps : List PyData} (h : ds.length = ps.length) (k : ∀ (i : Nat) (d : D) (p : PyData), ds[i]? = some d → ps[i]? = some p → Pd om d p) : Pd om (.lst ds) (.list ps)
  | tup {ds : List D} {ps : List PyData} (h : ds.length = ps.length) (k : ∀ (i : Nat) (d : D) (p : PyData), ds[i]? = some d → ps[i]? = some p → Pd om d p) : Pd om (.tup ds) (.tuple ps)
  | obj {a : Addr} {ds : List D} {ps : List PyData} (e : om a = some (.lst ds)) (h : ds.length = ps.length) (k : ∀ (i : Nat) (d : D) (p : PyData), ds[i]? = some d → ps[i]? = some p → Pd om d p) : Pd om (.obj a) (.list ps)
theorem dpAll_of {K : PySem.W.Frag} {H : Hp} : ∀ {ds : List D} {ps : List PyData} {xs : List V}, RepL K om H ds xs → ds.length = ps.length → (∀ (i : Nat) (d : D) (p : PyData), ds[i]? = some d → ps[i]? = some p → ∀ v, Rep K om H d v → Dp K H v p) → DpAll K H xs ps
  | [], [], _, h, _, _ => by cases h; exact .nil
  | d :: ds, p :: ps, _, ⟨x, r, e, h, t⟩, l, k => by
    cases e
    exact .cons (k 0 d p rfl rfl x h) (dpAll_of t (by simpa using l) fun i d' p' h1 h2 => k (i + 1) d' p' (by simpa using h1) (by simpa using h2))
  | [], _ :: _, _, _, l, _ => by simp at l
  | _ :: _, [], _, _, l, _ => by simp at l
theorem Pd.dp {K : PySem.W.Frag} {H : Hp} (S : StoreOk K om H) {d : D} {p : PyData} (h : Pd om d p) : ∀ v, Rep K om H d v → Dp K H v p := by
  induction h with
  | non => intro v r; cases r; exact .non
  | bl b => intro v r; cases r; exact .bl b
  | int i => intro v r; cases r; exact .int i
  | str s => intro v r; cases r; exact .str s
  | lst h k ih =>
    intro v r
    obtain ⟨a, xs, rfl, ⟨_, h1⟩, q⟩ := r
    exact .lst (SqL.of h1) (dpAll_of q h ih)
  | tup h k ih =>
    intro v r
    obtain ⟨a, xs, rfl, h1, q⟩ := tup_rep r
    exact .tup h1 (dpAll_of q h ih)
  | obj e h k ih =>
    intro v r
    cases r
    obtain ⟨xs, h1, q⟩ := S _ _ e
    exact .lst (SqL.of h1) (dpAll_of q h ih)
/-- no dict within, not deep -/
def pok (p : PyData) : Prop := p.plain = true ∧ p.depth ≤ 60
def rEqP (K : PySem.W.Frag) (neg : Bool) : R2 := fun x y H Q => ∃ d e, Dp K H x d ∧ Dp K H y e ∧ pok d ∧ pok e ∧ Q (.bl (if neg then !PyData.eqv d e else PyData.eqv d e)) H
theorem op_eqP (hu : X.A.units + 64 < cLine) : OpR X (compareOp .Eq) (rEqP X.K false) := by
  intro pins s σ H x y v u Q I rx ry h
  obtain ⟨d, e, hd, he, sd, se, q⟩ := h
  obtain ⟨as, r1⟩ := Dp.reads I d x v hd rx
  obtain ⟨bs, r2⟩ := Dp.reads I e y u he ry
  have m : min d.depth e.depth ≤ 60 := Nat.le_trans (Nat.min_le_left _ _) sd.2
  exact SeqAt.eq_plain r1 r2 sd.1 se.1 (by omega) ⟨.bl _, H, I, rfl, q⟩
theorem op_neP (hu : X.A.units + 64 < cLine) : OpR X (compareOp .NotEq) (rEqP X.K true) := by
  intro pins s σ H x y v u Q I rx ry h
  obtain ⟨d, e, hd, he, sd, se, q⟩ := h
  obtain ⟨as, r1⟩ := Dp.reads I d x v hd rx
  obtain ⟨bs, r2⟩ := Dp.reads I e y u he ry
  have m : min d.depth e.depth ≤ 60 := Nat.le_trans (Nat.min_le_left _ _) sd.2
  exact SeqAt.ne_plain r1 r2 sd.1 se.1 (by omega) ⟨.bl _, H, I, rfl, q⟩
theorem c_eqD {p q : PyData} (hu : X.A.units + 64 < cLine) (hx : Pd om x p) (hy : Pd om y q) (kp : pok p) (kq : pok q) : Op X om (compareOp .Eq) x y (.bl (PyData.eqv p q)) := .of (op_eqP hu) fun H v u S rx ry Q k =>
  ⟨p, q, hx.dp S v rx, hy.dp S u ry, kp, kq, k _ rfl⟩
theorem c_neD {p q : PyData} (hu : X.A.units + 64 < cLine) (hx : Pd om x p) (hy : Pd om y q) (kp : pok p) (kq : pok q) : Op X om (compareOp .NotEq) x y (.bl (!PyData.eqv p q)) := .of (op_neP hu) fun H v u S rx ry Q k =>
  ⟨p, q, hx.dp S v rx, hy.dp S u ry, kp, kq, k _ rfl⟩
def rInP (K : PySem.W.Frag) (neg : Bool) : R2 := fun x y H Q => ∃ d es, Dp K H x d ∧ (Dp K H y (.list es) ∨ Dp K H y (.tuple es)) ∧ pok d ∧ pok (.tuple es) ∧ Q (.bl (if neg then !es.any (fun e => PyData.eqv e d) else es.any (fun e => PyData.eqv e d))) H
theorem op_inP (hu : X.A.units + 65 < cLine) : OpR X (compareOp .In) (rInP X.K false) := by
  intro pins s σ H x y v u Q I rx ry h
  obtain ⟨d, es, hd, he, sd, se, q⟩ := h
  obtain ⟨as, r1⟩ := Dp.reads I d x v hd rx
  have m : min (PyData.depthAll es) d.depth ≤ 60 := Nat.le_trans (Nat.min_le_right _ _) sd.2
  have pl : PyData.plainAll es = true := se.1
  rcases he with he | he
  · obtain ⟨bs, r2⟩ := Dp.reads I _ y u he ry
    exact SeqAt.in_list_data r2 r1 pl sd.1 (by omega) ⟨.bl _, H, I, rfl, q⟩
  · obtain ⟨bs, r2⟩ := Dp.reads I _ y u he ry
    exact SeqAt.in_tuple_data r2 r1 pl sd.1 (by omega) ⟨.bl _, H, I, rfl, q⟩
theorem op_notInP (hu : X.A.units + 65 < cLine) : OpR X (compareOp .NotIn) (rInP X.K true) := by
  intro pins s σ H x y v u Q I rx ry h
  obtain ⟨d, es, hd, he, sd, se, q⟩ := h
  obtain ⟨as, r1⟩ := Dp.reads I d x v hd rx
  have m : min (PyData.depthAll es) d.depth ≤ 60 := Nat.le_trans (Nat.min_le_right _ _) sd.2
  have pl : PyData.plainAll es = true := se.1
  rcases he with he | he
  · obtain ⟨bs, r2⟩ := Dp.reads I _ y u he ry
    exact SeqAt.notIn_list_data r2 r1 pl sd.1 (by omega) ⟨.bl _, H, I, rfl, q⟩
  · obtain ⟨bs, r2⟩ := Dp.reads I _ y u he ry
    exact SeqAt.notIn_tuple_data r2 r1 pl sd.1 (by omega) ⟨.bl _, H, I, rfl, q⟩
/-- the items that a list or a tuple reads as -/
def Pds (om : Om) (y : D) (es : List PyData) : Prop := Pd om y (.list es) ∨ Pd om y (.tuple es)
theorem c_in {p : PyData} {es : List PyData} (hu : X.A.units + 65 < cLine) (hx : Pd om x p) (hy : Pds om y es) (kp : pok p) (kq : pok (.tuple es)) : Op X om (compareOp .In) x y (.bl (es.any fun e => PyData.eqv e p)) := .of (op_inP hu) fun H v u S rx ry Q k =>
  ⟨p, es, hx.dp S v rx, hy.elim (fun h => .inl (h.dp S u ry)) (fun h => .inr (h.dp S u ry)), kp, kq, k _ rfl⟩
theorem c_notIn {p : PyData} {es : List PyData} (hu : X.A.units + 65 < cLine) (hx : Pd om x p) (hy : Pds om y es) (kp : pok p) (kq : pok (.tuple es)) : Op X om (compareOp .NotIn) x y (.bl (!es.any fun e => PyData.eqv e p)) := .of (op_notInP hu) fun H v u S rx ry Q k =>
  ⟨p, es, hx.dp S v rx, hy.elim (fun h => .inl (h.dp S u ry)) (fun h => .inr (h.dp S u ry)), kp, kq, k _ rfl⟩

/-! ### subscripts -/
def wIx (X : Cx) : R2 := fun x y H Q => ∀ (value slice : Expr) (pins : List (Addr × Obj)) (s : Shared) (σ : L2.St) (v u : Value), Inv X pins σ H s → RelV x v → RelV y u →
    subscripted slice false v u = operate [v, u] (getItem v u) → wpAny (model X.prog X.w) X.A (subscriptTail value slice v u) (EP X pins σ Q) X.xe s
theorem wIx_ix : IxR X (wIx X) := fun value slice pins s σ H x y v u Q I rx ry h hs => h value slice pins s σ v u I rx ry hs
theorem wIx_of {r : R2} (h : IxR X r) {x y : V} {H : Hp} {Q : VK} (q : r x y H Q) : wIx X x y H Q := fun value slice pins s σ v u I rx ry hs => h value slice pins s σ H x y v u Q I rx ry q hs
/-- x[y], in the store om -/
def Ix2 (X : Cx) (om : Om) (x y : D) (Q : DK) : Prop := ∀ (om0 : Om) (H0 : Hp) (σ : L2.St) (ro : Ro) (H : Hp) (v u : V), Ok X.K om0 H0 om H σ ro → Rep X.K om H x v → Rep X.K om H y u →
  wIx X v u H fun w H' => ∃ d om', Q d om' ∧ Ok X.K om0 H0 om' H' σ ro ∧ Rep X.K om' H' d w
theorem e_ix {Q : DK} (h : we X R ro om a fun x om1 => we X R ro om1 b fun y om2 => Ix2 X om2 x y Q) (hs : PlainIx b := by exact fun _ _ => rfl) : we X R ro om (.Subscript a b pos) Q := .mk fun om0 H0 t σ H o => by
  refine pE_of (pe_ix wIx_ix pE_pe pE_pe hs) ?_
  refine pE_mono (h om0 H0 t σ H o) fun v H1 ⟨x, om1, q, o1, r⟩ => ?_
  refine pE_mono (q om1 H1 (t.at o1.stab) σ H1 ⟨o1.store, Stable.refl, o1.slot, o1.len⟩) fun u H2 ⟨y, om2, q2, o2, r2⟩ => ?_
  exact q2 om0 H0 σ ro H2 v u ⟨o2.store, o1.stab.trans o2.stab, o2.slot, o2.len⟩ (r.mono o2.stab) r2
/-- x[y] is z -/
inductive Ix (X : Cx) (om : Om) (x y z : D) : Prop
  | seq (h : ∀ Q : DK, Q z om → Ix2 X om x y Q)
  | dct (a : Addr) (kvs : List (Key × D)) (k : Key) (e : x = .obj a) (h : om a = some (.dct kvs)) (hk : ∀ (H : Hp) (u : V), Rep X.K om H y u → u = kV k) (hz : (kvs.find? fun kv => decide (kv.1 = k)).map (·.2) = some z)
theorem valV_of {K : PySem.W.Frag} {H : Hp} {k : Key} {z : D} : ∀ {kvs : List (Key × D)} {kvs' : List (Key × V)}, kvs'.map (·.1) = kvs.map (·.1) → RepL K om H (kvs.map (·.2)) (kvs'.map (·.2)) →
    (kvs.find? fun kv => decide (kv.1 = k)).map (·.2) = some z → ∃ w, valV kvs' k = some w ∧ Rep K om H z w
  | [], _, _, _, h => by simp at h
  | (k1, d) :: r, [], e, _, _ => by simp at e
  | (k1, d) :: r, (k2, v) :: r', e, q, h => by
    simp only [List.map_cons, List.cons.injEq] at e
    obtain ⟨rfl, e⟩ := e
    obtain ⟨x, t, ex, q1, q2⟩ := q
    simp only [List.map_cons, List.cons.injEq] at ex
    obtain ⟨rfl, rfl⟩ := ex
    unfold valV
    by_cases hk : k2 = k
    · subst hk
      simp only [List.find?_cons, decide_true, Option.map_some, Option.some.injEq] at h ⊢
      subst h
      exact ⟨v, rfl, q1⟩
    · simp only [List.find?_cons, hk, decide_false] at h ⊢
      exact valV_of e q2 h
theorem v_ix (h : wv X ro om a x) (k : wv X ro om b y) (o : Ix X om x y z) (hu : X.A.units + 1 < cLine) (hs : PlainIx b := by exact fun _ _ => rfl) : wv X ro om (.Subscript a b pos) z := .mk fun R Q q => by
  cases o with
  | seq o => exact e_ix (h R _ (k R _ (o Q q))) hs
  | dct p kvs key e hp hk hz =>
    subst e
    refine .mk fun om0 H0 t σ H o => ?_
    refine pE_of (pe_dget hu pE_pe pE_pe hs) ?_
    refine pE_mono (h R (fun x om1 => x = .obj p ∧ om1 = om) ⟨rfl, rfl⟩ om0 H0 t σ H o) fun v H1 ⟨x, om1, ⟨e1, e2⟩, o1, r⟩ => ?_
    subst e1 e2
    refine pE_mono (k R (fun x om2 => x = y ∧ om2 = om1) ⟨rfl, rfl⟩ om0 H0 t σ H1 o1) fun u H2 ⟨y', om2, ⟨e1, e2⟩, o2, r2⟩ => ?_
    subst e1 e2
    cases r
    obtain ⟨kvs', h1, h2, h3⟩ := o2.store _ _ hp
    obtain ⟨w, h4, h5⟩ := valV_of h2 h3 hz
    rw [hk H2 u r2]
    exact ⟨p, w, rfl, (by rw [← h4]; exact DGet.k h1), z, om2, q, o2, h5⟩
theorem Ix.of {r : R2} (h : IxR X r) (k : ∀ (H : Hp) (v u : V), StoreOk X.K om H → Rep X.K om H x v → Rep X.K om H y u → ∀ Q : VK, (∀ w, Rep X.K om H z w → Q w H) → r v u H Q) : Ix X om x y z :=
  .seq fun Q q om0 H0 σ ro H v u o rx ry => wIx_of h (k H v u o.store rx ry _ fun w rw => ⟨z, om, q, o, rw⟩)
theorem atI_rep {K : PySem.W.Frag} {H : Hp} {ds : List D} {xs : List V} {i : Int} {d : D} (r : RepL K om H ds xs) (h : atI ds i = some d) : ∃ v, atI xs i = some v ∧ Rep K om H d v := by
  unfold atI at h ⊢
  rw [← r.length]
  cases e : ixN ds.length i with
  | none => rw [e] at h; cases h
  | some j =>
    rw [e] at h
    obtain ⟨v, h1, h2⟩ := r.get h
    exact ⟨v, h1, h2⟩
theorem ix_L {ds : List D} {i : Int} (l : Lr om x ds) (h : atI ds i = some z) : Ix X om x (.int i) z := .of ix_list fun H v u S rx ry Q q => by
  cases ry
  obtain ⟨p, xs, rfl, h1, r1⟩ := l.rep S rx
  obtain ⟨w, h2, rw⟩ := atI_rep r1 h
  exact ⟨p, xs, i, w, rfl, rfl, SqL.of h1, h2, q w rw⟩
theorem ix_T {ds : List D} {i : Int} (h : atI ds i = some z) : Ix X om (.tup ds) (.int i) z := .of ix_tup fun H v u S rx ry Q q => by
  cases ry
  obtain ⟨p, xs, rfl, h1, r1⟩ := tup_rep rx
  obtain ⟨w, h2, rw⟩ := atI_rep r1 h
  exact ⟨p, xs, i, w, rfl, rfl, h1, h2, q w rw⟩
theorem ix_S {s : Str} {i : Int} {c : Nat} (hl : s.length ≤ sizeLine) (h : atI s.cps.toList i = some c) : Ix X om (.str s) (.int i) (.str ⟨#[c]⟩) := .of ix_str fun H v u S rx ry Q q => by
  cases rx; cases ry
  exact ⟨s, i, c, rfl, rfl, hl, h, q _ rfl⟩
theorem scr_rep {H : Hp} {K : PySem.W.Frag} {ns : List Int} {v : V} (r : Rep K om H (.scr ns) v) : ∃ p, v = .ref p ∧ SqL K H p (ns.map V.int) := by
  obtain ⟨p, e, h⟩ := r
  exact ⟨p, e, h.elim (fun h => .inl h.2) .inr⟩
theorem ix_scr {ns : List Int} {i j : Int} (h : atI ns i = some j) : Ix X om (.scr ns) (.int i) (.int j) := .of ix_list fun H v u S rx ry Q q => by
  cases ry
  obtain ⟨p, rfl, h1⟩ := scr_rep rx
  refine ⟨p, _, i, .int j, rfl, rfl, h1, ?_, q _ rfl⟩
  unfold atI at h ⊢
  rw [List.length_map]
  cases e : ixN ns.length i with
  | none => rw [e] at h; cases h
  | some j =>
    rw [e] at h
    show (ns.map V.int)[j]? = _
    rw [List.getElem?_map]
    rw [show ns[j]? = _ from h]
    rfl
theorem ix_dI {p : Addr} {kvs : List (Key × D)} {i : Int} (h : om p = some (.dct kvs)) (hz : (kvs.find? fun kv => decide (kv.1 = .inl i)).map (·.2) = some z) : Ix X om (.obj p) (.int i) z :=
  .dct p kvs (.inl i) rfl h (fun _ _ r => r) hz
theorem ix_dS {p : Addr} {kvs : List (Key × D)} {i : Str} (h : om p = some (.dct kvs)) (hz : (kvs.find? fun kv => decide (kv.1 = .inr i)).map (·.2) = some z) : Ix X om (.obj p) (.str i) z :=
  .dct p kvs (.inr i) rfl h (fun _ _ r => r) hz

/-! ### slices -/
def wSl (X : Cx) : V → Option Int → Option Int → Hp → VK → Prop := fun x lo hi H Q => ∀ (pins : List (Addr × Obj)) (s : Shared) (σ : L2.St) (v vl vu : Value) (sl : Addr), Inv X pins σ H s → RelV x v → s.heap.IsSliceOf sl vl vu .none → IsPart vl lo → IsPart vu hi →
    ∃ T id, typeLookup (.type T) "__getitem__" = pure (some (.builtin id)) ∧ s.TypeIs v T ∧ wpAny (model X.prog X.w) X.A (getItem v (.ref sl)) (EP X pins σ Q) X.xe s
theorem wSl_sl : SlR X (wSl X) := fun pins s σ H x v vl vu lo hi sl Q I rx hs pl pu q => q pins s σ v vl vu sl I rx hs pl pu
theorem wSl_of {r : V → Option Int → Option Int → Hp → VK → Prop} (h : SlR X r) {x : V} {lo hi : Option Int} {H : Hp} {Q : VK} (q : r x lo hi H Q) : wSl X x lo hi H Q := fun pins s σ v vl vu sl I rx hs pl pu => h pins s σ H x v vl vu lo hi sl Q I rx hs pl pu q
/-- a part of a slice -/
def wo (X : Cx) (R : RX) (ro : Ro) (om : Om) (e : Option Expr) (o : Option Int) : Prop := match e with
  | none => o = none
  | some e => ∃ i, o = some i ∧ wv X ro om e (.int i)
/-- x[lo:hi] is z -/
structure Sl (X : Cx) (om : Om) (x : D) (lo hi : Option Int) (z : D) : Prop where
  go : ∀ (H : Hp) (v : V), StoreOk X.K om H → Rep X.K om H x v → ∀ Q : VK, (∀ w H', StoreOk X.K om H' → Stable om H om H' → Rep X.K om H' z w → Q w H') → wSl X v lo hi H Q
instance {X : Cx} {om : Om} {x : D} {lo hi : Option Int} {z : D} : CoeFun (Sl X om x lo hi z) (fun _ => ∀ (H : Hp) (v : V), StoreOk X.K om H → Rep X.K om H x v → ∀ Q : VK, (∀ w H', StoreOk X.K om H' → Stable om H om H' → Rep X.K om H' z w → Q w H') → wSl X v lo hi H Q) := ⟨Sl.go⟩
def vpo (X : Cx) (ro : Ro) (om : Om) (e : Option Expr) (o : Option Int) : Prop := match e with
  | none => o = none
  | some e => ∃ i, o = some i ∧ wv X ro om e (.int i)
theorem po_no : vpo X ro om none none := rfl
theorem po_at {i : Int} (h : wv X ro om e (.int i)) : vpo X ro om (some e) (some i) := ⟨i, rfl, h⟩
def pO (X : Cx) (e : Option Expr) : TO := fun σ H Q => match e with
  | none => Q none H
  | some e => pE X e σ H fun x H1 => ∃ i, x = .int i ∧ Q (some i) H1
theorem pO_po : ∀ e : Option Expr, PO X e (pO X e)
  | none => po_none
  | some e => po_some pE_pe
theorem vpo_run {lo : Option Int} {eo : Option Expr} (h : vpo X ro om eo lo) {om0 : Om} {H0 : Hp} (t : Tk X om0 H0 R) {σ : L2.St} {H : Hp} (o : Ok X.K om0 H0 om H σ ro) {Q : Option Int → Hp → Prop} (q : ∀ H', Ok X.K om0 H0 om H' σ ro → Stable om H om H' → Q lo H') : pO X eo σ H Q := by
  cases eo with
  | none => cases (show lo = none from h); exact q H o Stable.refl
  | some e =>
    obtain ⟨i, rfl, hv⟩ := h
    refine pE_mono (hv R (fun d om' => d = .int i ∧ om' = om) ⟨rfl, rfl⟩ om H (t.at o.stab) σ H ⟨o.store, Stable.refl, o.slot, o.len⟩) fun v H1 ⟨d, om1, ⟨e1, e2⟩, o1, r1⟩ => ?_
    subst e1 e2
    exact ⟨i, r1, q H1 ⟨o1.store, o.stab.trans o1.stab, o1.slot, o1.len⟩ o1.stab⟩
theorem v_sl {lo hi : Option Int} {el eh : Option Expr} {p2 : Pos} (h : wv X ro om a x) (hl : vpo X ro om el lo) (hh : vpo X ro om eh hi) (o : Sl X om x lo hi z) : wv X ro om (.Subscript a (.Slice el eh none p2) pos) z := .mk fun R Q q => .mk fun om0 H0 t σ H ok => by
  refine pE_of (pe_slice wSl_sl pE_pe (pO_po el) (pO_po eh)) ?_
  refine pE_mono (h R (fun x' om1 => x' = x ∧ om1 = om) ⟨rfl, rfl⟩ om0 H0 t σ H ok) fun v H1 ⟨x', om1, ⟨e1, e2⟩, o1, r⟩ => ?_
  subst e1 e2
  refine vpo_run hl t o1 fun H2 o2 s2 => vpo_run hh t o2 fun H3 o3 s3 => ?_
  exact o H3 v o3.store ((r.mono s2).mono s3) _ fun w H' S s rw => ⟨z, om1, q, o3.to S s, rw⟩
/-- the cut of a list -/
def cut {α : Type} (xs : List α) (lo hi : Option Int) : List α := (xs.drop (HT.sIx xs.length 0 lo)).take (HT.sIx xs.length xs.length hi - HT.sIx xs.length 0 lo)
theorem cut_rep {K : PySem.W.Frag} {H : Hp} {ds : List D} {xs : List V} (r : RepL K om H ds xs) (lo hi : Option Int) : RepL K om H (cut ds lo hi) (cutV xs lo hi) := by
  unfold cut cutV
  rw [r.length]
  exact (r.drop _).take _
theorem cut_map {α β : Type} (g : α → β) (xs : List α) (lo hi : Option Int) : cut (xs.map g) lo hi = (cut xs lo hi).map g := by
  unfold cut
  rw [List.length_map, List.map_take, List.map_drop]
theorem s_L {ds : List D} {lo hi : Option Int} (l : Lr om x ds) : Sl X om x lo hi (.lst (cut ds lo hi)) := .mk fun H v S r Q q => by
  obtain ⟨p, xs, rfl, h1, r1⟩ := l.rep S r
  exact wSl_of sl_list ⟨p, xs, rfl, SqL.of h1, fun t n => q _ _ (S.new n) (Stable.new n) (new_lst S n (cut_rep r1 lo hi))⟩
theorem s_scr {ns : List Int} {lo hi : Option Int} : Sl X om (.scr ns) lo hi (.lst ((cut ns lo hi).map .int)) := .mk fun H v S r Q q => by
  obtain ⟨p, rfl, h1⟩ := scr_rep r
  refine wSl_of sl_list ⟨p, _, rfl, h1, fun t n => q _ _ (S.new n) (Stable.new n) ?_⟩
  have e : cutV (ns.map V.int) lo hi = (cut ns lo hi).map V.int := cut_map V.int ns lo hi
  rw [e]
  exact new_lst S n RepL.of_ints
theorem s_S {s : Str} {lo hi : Option Int} (h : s.length ≤ sizeLine) : Sl X om (.str s) lo hi (.str (cutS s lo hi)) := .mk fun H v S r Q q => by
  cases r
  exact wSl_of sl_str ⟨s, rfl, h, q _ _ S Stable.refl rfl⟩
end
end Mo

set_option Elab.async false
set_option linter.all false
set_option maxRecDepth 100000
set_option maxHeartbeats 4000000
set_option autoImplicit false
/-! New lists, displays, calls of built-ins, methods, tests, statements over data. -/
namespace Mo
open PySem PySem.Spec PyProof.Rows L2

section
variable {X : Cx} {R : RX} {ro : Ro} {om : Om} {e a b c : Expr} {es : List Expr} {st : Stmt} {sts : List Stmt} {F : De} {pos : Pos} {x y z : D} {f : Value → Value → Sem Value}

/-! ### a new list, as an object of the store; as a tree -/
/-- e makes a new list of ds -/
structure wn (X : Cx) (ro : Ro) (om : Om) (e : Expr) (ds : List D) : Prop where
  go : ∀ (R : RX) (Q : DK), (∀ p, om p = none → Q (.obj p) (ups om p (.lst ds))) → we X R ro om e Q
instance {X : Cx} {ro : Ro} {om : Om} {e : Expr} {ds : List D} : CoeFun (wn X ro om e ds) (fun _ => ∀ (R : RX) (Q : DK), (∀ p, om p = none → Q (.obj p) (ups om p (.lst ds))) → we X R ro om e Q) := ⟨wn.go⟩
theorem Ok.tree {K : PySem.W.Frag} {om0 om1 : Om} {H0 H : Hp} {σ : L2.St} {p : Addr} {ds : List D} (o : Ok K om0 H0 om H σ ro) (h : om p = some (.lst ds)) :
    Ok K om0 H0 (dels om p) H σ ro ∧ Rep K (dels om p) H (.lst ds) (.ref p) := by
  refine ⟨o.to o.store.del Stable.del, ?_⟩
  obtain ⟨xs, h1, r⟩ := o.store _ _ h
  exact ⟨p, xs, rfl, ⟨dels_same, h1⟩, r.mono Stable.del⟩
theorem wn.v {ds : List D} (h : wn X ro om e ds) : wv X ro om e (.lst ds) := .mk fun R Q q => .mk fun om0 H0 t σ H o => by
  refine pE_mono (h R (fun d om1 => ∃ p, d = .obj p ∧ om p = none ∧ om1 = ups om p (.lst ds)) (fun p hp => ⟨p, rfl, hp, rfl⟩) om0 H0 t σ H o) fun v H1 ⟨d, om1, ⟨p, e1, e2, e3⟩, o1, r⟩ => ?_
  subst e1 e3
  cases r
  obtain ⟨o2, r2⟩ := o1.tree (om1 := om) ups_same
  rw [dels_ups e2] at o2 r2
  exact ⟨_, _, q, o2, r2⟩
theorem Ok.newl {K : PySem.W.Frag} {om0 : Om} {H0 H : Hp} {σ : L2.St} {p : Addr} {ds : List D} {xs : List V} (o : Ok K om0 H0 om H σ ro) (n : H p = none) (r : RepL K om H ds xs) : Ok K om0 H0 (ups om p (.lst ds)) (upd H p (.lst xs)) σ ro :=
  o.to (o.store.mk n ⟨xs, upd_same, r.mono (Stable.mk n)⟩) (Stable.mk n)

theorem n_lst {ds : List D} (h : wav X ro om es ds) (hl : ds.length ≤ sizeLine := by simp [sizeLine_eq]) : wn X ro om (.List es pos) ds := .mk fun R Q q => .mk fun om0 H0 t σ H o => by
  refine pE_of (pe_lst pA_pa) ?_
  refine pA_mono (h R (fun ds' om1 => ds' = ds ∧ om1 = om) ⟨rfl, rfl⟩ om0 H0 t σ H o) fun vs H1 ⟨ds', om1, ⟨e1, e2⟩, o1, r⟩ => ?_
  subst e1 e2
  exact ⟨by rw [← r.length]; exact hl, fun p n => ⟨_, _, q p (o1.store.fresh n), o1.newl n r, rfl⟩⟩
theorem v_lst {ds : List D} (h : wav X ro om es ds) (hl : ds.length ≤ sizeLine := by simp [sizeLine_eq]) : wv X ro om (.List es pos) (.lst ds) := (n_lst h hl).v
theorem v_tup {ds : List D} {k : Nat} (h : wav X ro om es ds) (hl : ds.length ≤ sizeLine := by simp [sizeLine_eq]) : wv X ro om (.Tuple es k pos) (.tup ds) := .mk fun R Q q => .mk fun om0 H0 t σ H o => by
  refine pE_of (pe_tup pA_pa) ?_
  refine pA_mono (h R (fun ds' om1 => ds' = ds ∧ om1 = om) ⟨rfl, rfl⟩ om0 H0 t σ H o) fun vs H1 ⟨ds', om1, ⟨e1, e2⟩, o1, r⟩ => ?_
  subst e1 e2
  exact ⟨by rw [← r.length]; exact hl, fun p n => ⟨_, _, q, o1.to (o1.store.new n) (Stable.new n), new_tup o1.store n r⟩⟩
theorem e_tup {Q : DK} {k : Nat} (h : wa X R ro om es fun ds om1 => ds.length ≤ sizeLine ∧ Q (.tup ds) om1) : we X R ro om (.Tuple es k pos) Q := .mk fun om0 H0 t σ H o => by
  refine pE_of (pe_tup pA_pa) ?_
  refine pA_mono (h om0 H0 t σ H o) fun vs H1 ⟨ds', om1, ⟨hl, q⟩, o1, r⟩ => ?_
  exact ⟨by rw [← r.length]; exact hl, fun p n => ⟨_, _, q, o1.to (o1.store.new n) (Stable.new n), new_tup o1.store n r⟩⟩
theorem e_lst {Q : DK} (h : wa X R ro om es fun ds om1 => ds.length ≤ sizeLine ∧ Q (.lst ds) om1) : we X R ro om (.List es pos) Q := .mk fun om0 H0 t σ H o => by
  refine pE_of (pe_lst pA_pa) ?_
  refine pA_mono (h om0 H0 t σ H o) fun vs H1 ⟨ds', om1, ⟨hl, q⟩, o1, r⟩ => ?_
  exact ⟨by rw [← r.length]; exact hl, fun p n => ⟨_, _, q, o1.to (o1.store.new n) (Stable.new n), new_lst o1.store n r⟩⟩
theorem e_lstN {Q : DK} (h : wa X R ro om es fun ds om1 => ds.length ≤ sizeLine ∧ ∀ p, om1 p = none → Q (.obj p) (ups om1 p (.lst ds))) : we X R ro om (.List es pos) Q := .mk fun om0 H0 t σ H o => by
  refine pE_of (pe_lst pA_pa) ?_
  refine pA_mono (h om0 H0 t σ H o) fun vs H1 ⟨ds', om1, ⟨hl, q⟩, o1, r⟩ => ?_
  exact ⟨by rw [← r.length]; exact hl, fun p n => ⟨_, _, q p (o1.store.fresh n), o1.newl n r, rfl⟩⟩

/-! ### slices, sums of lists, as new lists -/
/-- x[lo:hi] is a new list -/
structure SlN (X : Cx) (om : Om) (x : D) (lo hi : Option Int) (ds : List D) : Prop where
  go : ∀ (om0 : Om) (H0 : Hp) (σ : L2.St) (ro : Ro) (H : Hp) (v : V), Ok X.K om0 H0 om H σ ro → Rep X.K om H x v → ∀ Q : VK,   (∀ p H', om p = none → Ok X.K om0 H0 (ups om p (.lst ds)) H' σ ro → Q (.ref p) H') → wSl X v lo hi H Q
instance {X : Cx} {om : Om} {x : D} {lo hi : Option Int} {ds : List D} : CoeFun (SlN X om x lo hi ds) (fun _ => ∀ (om0 : Om) (H0 : Hp) (σ : L2.St) (ro : Ro) (H : Hp) (v : V), Ok X.K om0 H0 om H σ ro → Rep X.K om H x v → ∀ Q : VK,   (∀ p H', om p = none → Ok X.K om0 H0 (ups om p (.lst ds)) H' σ ro → Q (.ref p) H') → wSl X v lo hi H Q) := ⟨SlN.go⟩
theorem n_sl {lo hi : Option Int} {el eh : Option Expr} {p2 : Pos} {ds : List D} (h : wv X ro om a x) (hl : vpo X ro om el lo) (hh : vpo X ro om eh hi) (o : SlN X om x lo hi ds) : wn X ro om (.Subscript a (.Slice el eh none p2) pos) ds := .mk fun R Q q => .mk fun om0 H0 t σ H ok => by
  refine pE_of (pe_slice wSl_sl pE_pe (pO_po el) (pO_po eh)) ?_
  refine pE_mono (h R (fun x' om1 => x' = x ∧ om1 = om) ⟨rfl, rfl⟩ om0 H0 t σ H ok) fun v H1 ⟨x', om1, ⟨e1, e2⟩, o1, r⟩ => ?_
  subst e1 e2
  refine vpo_run hl t o1 fun H2 o2 s2 => vpo_run hh t o2 fun H3 o3 s3 => ?_
  exact o om0 H0 σ ro H3 v o3 ((r.mono s2).mono s3) _ fun p H' n o' => ⟨_, _, q p n, o', rfl⟩
theorem sn_L {ds : List D} {lo hi : Option Int} (l : Lr om x ds) : SlN X om x lo hi (cut ds lo hi) := .mk fun om0 H0 σ ro H v o r Q q => by
  obtain ⟨p, xs, rfl, h1, r1⟩ := l.rep o.store r
  exact wSl_of sl_list ⟨p, xs, rfl, SqL.of h1, fun t n => q _ _ (o.store.fresh n) (o.newl n (cut_rep r1 lo hi))⟩
theorem sn_scr {ns : List Int} {lo hi : Option Int} : SlN X om (.scr ns) lo hi ((cut ns lo hi).map .int) := .mk fun om0 H0 σ ro H v o r Q q => by
  obtain ⟨p, rfl, h1⟩ := scr_rep r
  refine wSl_of sl_list ⟨p, _, rfl, h1, fun t n => q _ _ (o.store.fresh n) ?_⟩
  have e : cutV (ns.map V.int) lo hi = (cut ns lo hi).map V.int := cut_map V.int ns lo hi
  rw [e]
  exact o.newl n RepL.of_ints
/-- a tuple's cut, not the whole of it -/
theorem s_T {ds : List D} {lo hi : Option Int} (h : ¬ (HT.sIx ds.length 0 lo = 0 ∧ HT.sIx ds.length ds.length hi = ds.length)) : Sl X om (.tup ds) lo hi (.tup (cut ds lo hi)) := .mk fun H v S r Q q => by
  obtain ⟨p, xs, rfl, h1, r1⟩ := tup_rep r
  exact wSl_of sl_tup ⟨p, xs, rfl, h1, by rw [← r1.length]; exact h, fun t n => q _ _ (S.new n) (Stable.new n) (new_tup S n (cut_rep r1 lo hi))⟩
theorem n_add {ds es : List D} {ea eb : Expr} (h : wv X ro om ea x) (k : wv X ro om eb y) (l : Lr om x ds) (m : Lr om y es) (hz : ds.length + es.length ≤ sizeLine) : wn X ro om (.BinOp ea .Add eb pos) (ds ++ es) := .mk fun R Q q =>
  e_op (h R _ (k R _ fun om0 H0 σ ro H v u o rx ry => by
    obtain ⟨p, xs, rfl, h1, r1⟩ := l.rep o.store rx
    obtain ⟨p', ys, rfl, h2, r2⟩ := m.rep o.store ry
    exact wR_of op_cat ⟨p, p', xs, ys, rfl, rfl, h1, h2, by rw [← r1.length, ← r2.length]; exact hz, fun t n => ⟨_, _, q t (o.store.fresh n), o.newl n (r1.app r2), rfl⟩⟩))

/-! ### calls of built-ins -/
def wC (X : Cx) (f : Value) : List V → Hp → VK → Prop := fun xs H Q => ∀ (pins : List (Addr × Obj)) (s : Shared) (σ : L2.St) (us : List Value), Inv X pins σ H s → Vals xs us → wpAny (model X.prog X.w) X.A (call f us) (EP X pins σ Q) X.xe s
theorem wC_c {f : Value} : CallR X f (wC X f) := fun pins s σ H xs us Q I r h => h pins s σ us I r
theorem wC_of {f : Value} {r : List V → Hp → VK → Prop} (h : CallR X f r) {xs : List V} {H : Hp} {Q : VK} (q : r xs H Q) : wC X f xs H Q := fun pins s σ us I rv => h pins s σ H xs us Q I rv q
/-- the built-in f, on ds, in the store om -/
def C2 (X : Cx) (om : Om) (f : Value) (ds : List D) (Q : DK) : Prop := ∀ (om0 : Om) (H0 : Hp) (σ : L2.St) (ro : Ro) (H : Hp) (vs : List V), Ok X.K om0 H0 om H σ ro → RepL X.K om H ds vs →
  wC X f vs H fun w H' => ∃ d om', Q d om' ∧ Ok X.K om0 H0 om' H' σ ro ∧ Rep X.K om' H' d w
/-- the name of a built-in -/
inductive Bi (X : Cx) (x : Str) : Value → Prop
  | fn (id : String) (hm : X.mg x = none) (hv : bootBuiltins x = some (.builtin id)) (hn : x ≠ "__name__") (hd : (x == ("__debug__" : Str)) = false) : Bi X x (.builtin id)
  | ty (T : String) (hm : X.mg x = none) (hv : bootBuiltins x = some (.type T)) (hn : x ≠ "__name__") (hd : (x == ("__debug__" : Str)) = false) : Bi X x (.type T)
theorem e_bi {fn : Str} {g : Value} {p : Pos} {Q : DK} (B : Bi X fn g) (h : wa X R ro om (e :: es) fun ds om1 => C2 X om1 g ds Q) (hg : Gl X fn) (he : starEach (e :: es) X.env = (false, eval e X.env) :: starEach es X.env := by rfl)
    (hpl : (backTo pos (starEach es X.env)).any (·.1) = false := by rfl) : we X R ro om (.Call (.Name fn p) (e :: es) [] pos) Q := .mk fun om0 H0 t σ H o => by
  have k : ∀ vs H1, (∃ ds om1, C2 X om1 g ds Q ∧ Ok X.K om0 H0 om1 H1 σ ro ∧ RepL X.K om1 H1 ds vs) → wC X g vs H1 fun w H' => ∃ d om', Q d om' ∧ Ok X.K om0 H0 om' H' σ ro ∧ Rep X.K om' H' d w :=
    fun vs H1 ⟨ds, om1, q, o1, r⟩ => q om0 H0 σ ro H1 vs o1 r
  cases B with
  | fn id hm hv hn hd => exact pE_of (pe_callB wC_c hg hm hv pA_pa hn hd he hpl) (pA_mono (h om0 H0 t σ H o) k)
  | ty T hm hv hn hd => exact pE_of (pe_callTy wC_c hg hm hv pA_pa hn hd he hpl) (pA_mono (h om0 H0 t σ H o) k)
/-- f(ds) is z -/
structure Cv (X : Cx) (om : Om) (f : Value) (ds : List D) (z : D) : Prop where
  go : ∀ Q : DK, Q z om → C2 X om f ds Q
instance {X : Cx} {om : Om} {f : Value} {ds : List D} {z : D} : CoeFun (Cv X om f ds z) (fun _ => ∀ Q : DK, Q z om → C2 X om f ds Q) := ⟨Cv.go⟩
structure Cn (X : Cx) (om : Om) (f : Value) (ds : List D) (zs : List D) : Prop where
  go : ∀ Q : DK, (∀ p, om p = none → Q (.obj p) (ups om p (.lst zs))) → C2 X om f ds Q
instance {X : Cx} {om : Om} {f : Value} {ds : List D} {zs : List D} : CoeFun (Cn X om f ds zs) (fun _ => ∀ Q : DK, (∀ p, om p = none → Q (.obj p) (ups om p (.lst zs))) → C2 X om f ds Q) := ⟨Cn.go⟩
theorem v_bi {fn : Str} {g : Value} {p : Pos} {ds : List D} (h : wav X ro om (e :: es) ds) (B : Bi X fn g) (c : Cv X om g ds z) (hg : Gl X fn) (he : starEach (e :: es) X.env = (false, eval e X.env) :: starEach es X.env := by rfl)
    (hpl : (backTo pos (starEach es X.env)).any (·.1) = false := by rfl) : wv X ro om (.Call (.Name fn p) (e :: es) [] pos) z := .mk fun R Q q => e_bi B (h R _ (c Q q)) hg he hpl
theorem n_bi {fn : Str} {g : Value} {p : Pos} {ds zs : List D} (h : wav X ro om (e :: es) ds) (B : Bi X fn g) (c : Cn X om g ds zs) (hg : Gl X fn) (he : starEach (e :: es) X.env = (false, eval e X.env) :: starEach es X.env := by rfl)
    (hpl : (backTo pos (starEach es X.env)).any (·.1) = false := by rfl) : wn X ro om (.Call (.Name fn p) (e :: es) [] pos) zs := .mk fun R Q q => e_bi B (h R _ (c Q q)) hg he hpl
theorem Cv.of {f : Value} {ds : List D} {r : List V → Hp → VK → Prop} (h : CallR X f r) (k : ∀ (H : Hp) (vs : List V), StoreOk X.K om H → RepL X.K om H ds vs → ∀ Q : VK, (∀ w, Rep X.K om H z w → Q w H) → r vs H Q) : Cv X om f ds z :=
  .mk fun Q q om0 H0 σ ro H vs o rv => wC_of h (k H vs o.store rv _ fun w rw => ⟨z, om, q, o, rw⟩)
theorem Cn.of {f : Value} {ds zs : List D} {r : List V → Hp → VK → Prop} (h : CallR X f r) (k : ∀ (H : Hp) (vs : List V), StoreOk X.K om H → RepL X.K om H ds vs → ∀ Q : VK, (∀ p xs, H p = none → RepL X.K om H zs xs → Q (.ref p) (upd H p (.lst xs))) → r vs H Q) : Cn X om f ds zs :=
  .mk fun Q q om0 H0 σ ro H vs o rv => wC_of h (k H vs o.store rv _ fun p xs n rx => ⟨_, _, q p (o.store.fresh n), o.newl n rx, rfl⟩)
theorem one_rep {K : PySem.W.Frag} {H : Hp} {vs : List V} (r : RepL K om H [x] vs) : ∃ v, vs = [v] ∧ Rep K om H x v := by
  obtain ⟨v, t, rfl, h, q⟩ := r
  cases q
  exact ⟨v, rfl, h⟩
theorem two_rep {K : PySem.W.Frag} {H : Hp} {vs : List V} (r : RepL K om H [x, y] vs) : ∃ v u, vs = [v, u] ∧ Rep K om H x v ∧ Rep K om H y u := by
  obtain ⟨v, t, rfl, h, u, t', rfl, h', q⟩ := r
  cases q
  exact ⟨v, u, rfl, h, h'⟩
theorem b_lenL {ds : List D} (l : Lr om x ds) : Cv X om (.builtin "len") [x] (.int ds.length) := .of call_len_seq fun H vs S r Q q => by
  obtain ⟨v, rfl, rx⟩ := one_rep r
  obtain ⟨p, xs, rfl, h1, r1⟩ := l.rep S rx
  exact ⟨p, xs, rfl, .inl (SqL.of h1), q _ (by rw [r1.length]; rfl)⟩
theorem b_lenT {ds : List D} : Cv X om (.builtin "len") [.tup ds] (.int ds.length) := .of call_len_seq fun H vs S r Q q => by
  obtain ⟨v, rfl, rx⟩ := one_rep r
  obtain ⟨p, xs, rfl, h1, r1⟩ := tup_rep rx
  exact ⟨p, xs, rfl, .inr h1, q _ (by rw [r1.length]; rfl)⟩
theorem b_lenC {ns : List Int} : Cv X om (.builtin "len") [.scr ns] (.int ns.length) := .of call_len_seq fun H vs S r Q q => by
  obtain ⟨v, rfl, rx⟩ := one_rep r
  obtain ⟨p, rfl, h1⟩ := scr_rep rx
  exact ⟨p, _, rfl, .inl h1, q _ (by rw [List.length_map]; rfl)⟩
theorem b_lenS {s : Str} (h : s.length ≤ sizeLine) : Cv X om (.builtin "len") [.str s] (.int s.length) := .of call_len_str fun H vs S r Q q => by
  obtain ⟨v, rfl, rx⟩ := one_rep r
  cases rx
  exact ⟨s, rfl, h, q _ rfl⟩
theorem b_lenD {p : Addr} {kvs : List (Key × D)} (h : om p = some (.dct kvs)) : Cv X om (.builtin "len") [.obj p] (.int kvs.length) := .of call_lenD fun H vs S r Q q => by
  obtain ⟨v, rfl, rx⟩ := one_rep r
  cases rx
  obtain ⟨kvs', h1, h2, h3⟩ := S _ _ h
  exact ⟨p, kvs', rfl, h1, q _ (by
    have e := congrArg List.length h2
    rw [List.length_map, List.length_map] at e
    rw [e]; rfl)⟩
theorem b_listL {ds : List D} (l : Lr om x ds) : Cn X om (.type "list") [x] ds := .of call_list_of fun H vs S r Q q => by
  obtain ⟨v, rfl, rx⟩ := one_rep r
  obtain ⟨p, xs, rfl, h1, r1⟩ := l.rep S rx
  exact ⟨p, xs, rfl, .inl (SqL.of h1), fun t n => q t xs n r1⟩
theorem b_max {i j : Int} (hc : X.calm = true) : Cv X om (.builtin "max") [.int i, .int j] (.int (if j > i then j else i)) := .of (call_max2 hc) fun H vs S r Q q => by
  obtain ⟨v, u, rfl, r1, r2⟩ := two_rep r
  cases r1; cases r2
  exact ⟨i, j, rfl, q _ rfl⟩
theorem b_min {i j : Int} (hc : X.calm = true) : Cv X om (.builtin "min") [.int i, .int j] (.int (if j < i then j else i)) := .of (call_min2 hc) fun H vs S r Q q => by
  obtain ⟨v, u, rfl, r1, r2⟩ := two_rep r
  cases r1; cases r2
  exact ⟨i, j, rfl, q _ rfl⟩
theorem b_intB {k : Bool} : Cv X om (.type "int") [.bl k] (.int (if k then 1 else 0)) := .of call_int1 fun H vs S r Q q => by
  obtain ⟨v, rfl, r1⟩ := one_rep r
  cases r1
  exact .inr ⟨k, rfl, q _ rfl⟩
theorem b_intS {s : Str} {n : Int} (h : PySem.intText? s = some n) (hl : s.length ≤ 640) : Cv X om (.type "int") [.str s] (.int n) := .of call_int_str fun H vs S r Q q => by
  obtain ⟨v, rfl, r1⟩ := one_rep r
  cases r1
  exact ⟨s, n, rfl, h, hl, q _ rfl⟩
theorem b_str {i : Int} (h : i.natAbs.log2 < 1920) : Cv X om (.type "str") [.int i] (.str (toString i)) := .of call_str_int fun H vs S r Q q => by
  obtain ⟨v, rfl, r1⟩ := one_rep r
  cases r1
  exact ⟨i, rfl, h, q _ rfl⟩
theorem b_any {bs : List Bool} (l : Lr om x (bs.map .bl)) (hc : X.calm = true) : Cv X om (.builtin "any") [x] (.bl (bs.any id)) := .of (cr_any hc) fun H vs S r Q q => by
  obtain ⟨v, rfl, rx⟩ := one_rep r
  obtain ⟨p, xs, rfl, h1, r1⟩ := l.rep S rx
  cases r1.bls
  exact ⟨p, bs, rfl, SqL.of h1, q _ rfl⟩
theorem b_all {bs : List Bool} (l : Lr om x (bs.map .bl)) (hc : X.calm = true) : Cv X om (.builtin "all") [x] (.bl (bs.all id)) := .of (cr_all hc) fun H vs S r Q q => by
  obtain ⟨v, rfl, rx⟩ := one_rep r
  obtain ⟨p, xs, rfl, h1, r1⟩ := l.rep S rx
  cases r1.bls
  exact ⟨p, bs, rfl, SqL.of h1, q _ rfl⟩
theorem b_sum {ns : List Int} (l : Lr om x (ns.map .int)) (hc : X.calm = true) : Cv X om (.builtin "sum") [x] (.int ns.sum) := .of (cr_sum hc) fun H vs S r Q q => by
  obtain ⟨v, rfl, rx⟩ := one_rep r
  obtain ⟨p, xs, rfl, h1, r1⟩ := l.rep S rx
  cases r1.ints
  exact ⟨p, ns, rfl, SqL.of h1, q _ rfl⟩

/-! ### isinstance -/
structure InsC (K : PySem.W.Frag) (C : Addr) : Prop where
  cl : Cls K C
  ha : PySem.W.findIn K (.ref C) "__class__" = some (some (.builtin "object.__class__"))
  hn : PySem.W.specialIn K (.builtin "object.__class__") "__get__" = some (some (.builtin "getset_descriptor.__get__"))
  htk : PySem.W.takesIn K (.builtin "object.__class__") = some true
  hm : PySem.W.mroIn K C (.type "object") = some true
/-- the type of data -/
inductive Ty (K : PySem.W.Frag) (om : Om) : D → Value → Prop
  | non : Ty K om .non (.type "NoneType")
  | bl {k : Bool} : Ty K om (.bl k) (.type "bool")
  | int {i : Int} : Ty K om (.int i) (.type "int")
  | str {s : Str} : Ty K om (.str s) (.type "str")
  | lst {x : D} {ds : List D} (l : Lr om x ds) : Ty K om x (.type "list")
  | tup {ds : List D} : Ty K om (.tup ds) (.type "tuple")
  | ins {p C : Addr} {fs : List (Str × D)} (h : om p = some (.ins C fs)) (c : InsC K C) : Ty K om (.obj p) (.ref C)
theorem Ty.tyx {K : PySem.W.Frag} {H : Hp} {t : Value} {v : V} (h : Ty K om x t) (S : StoreOk K om H) (r : Rep K om H x v) : TyX K H v t := by
  cases h with
  | non => cases r; exact .base .non
  | bl => cases r; exact .base (.bl _)
  | int => cases r; exact .base (.int _)
  | str => cases r; exact .base (.str _)
  | lst l =>
    obtain ⟨p, xs, rfl, h1, _⟩ := l.rep S r
    exact .base (.lst h1)
  | tup =>
    obtain ⟨p, xs, rfl, h | ⟨o, its, n, h1, h2, _⟩, _⟩ := r
    · exact .base (.tup h.2)
    · exact .kTuple h1 h2
  | ins h c =>
    cases r
    obtain ⟨dx, fs', h1, _⟩ := S _ _ h
    exact .base (.ins h1 c.cl c.ha c.hn c.htk c.hm)
/-- a class by its name -/
inductive Kl (X : Cx) (x : Str) : Value → Prop
  | ty (T : String) (hm : X.mg x = none) (hv : bootBuiltins x = some (.type T)) (hn : x ≠ "__name__") (hd : (x == ("__debug__" : Str)) = false) : Kl X x (.type T)
  | own (C : Addr) (hm : X.mg x = some (.ref C)) (hd : (x == ("__debug__" : Str)) = false) : Kl X x (.ref C)
theorem Kl.pe {xn : Str} {t : Value} {p : Pos} (k : Kl X xn t) (hg : Gl X xn) : ∃ v, ClsV v t ∧ PE X (.Name xn p) (tC v) := by
  cases k with
  | ty T hm hv hn hd => exact ⟨.ty T, .ty T, pe_bltn hg hm hv rfl hn hd⟩
  | own C hm hd => exact ⟨.ref C, .own C, pe_glob hg hm rfl hd⟩
theorem v_isi {cn : Str} {p p2 : Pos} {t u : Value} {k : Bool} (h : wv X ro om e x) (ty : Ty X.K om x t) (kl : Kl X cn u) (hk : PySem.W.kitOne X.K t u = some k) (B : Bi X "isinstance" (.builtin "isinstance")) (hg2 : Gl X cn) (hg : Gl X "isinstance")
    (he : starEach (e :: [.Name cn p2]) X.env = (false, eval e X.env) :: starEach [.Name cn p2] X.env := by rfl) (he2 : starEach [.Name cn p2] X.env = (false, eval (.Name cn p2) X.env) :: starEach [] X.env := by rfl)
    (hpl : (backTo pos (starEach [.Name cn p2] X.env)).any (·.1) = false := by rfl) : wv X ro om (.Call (.Name "isinstance" p) [e, .Name cn p2] [] pos) (.bl k) := .mk fun R Q q => .mk fun om0 H0 t' σ H o => by
  obtain ⟨v, cv, pe⟩ := kl.pe (p := p2) hg2
  cases B with
  | fn id hm hv hn hd =>
    refine pE_of (pe_callB call_isi hg hm hv (pa_cons pE_pe (pa_cons pe pa_nil he2) he) hn hd he hpl) ?_
    refine pE_mono (h R (fun d om' => d = x ∧ om' = om) ⟨rfl, rfl⟩ om0 H0 t' σ H o) fun w H1 ⟨d, om1, ⟨e1, e2⟩, o1, r1⟩ => ?_
    subst e1 e2
    exact ⟨w, v, t, u, k, rfl, cv, ty.tyx o1.store r1, hk, _, _, q, o1, rfl⟩

/-! ### methods of built-in types -/
def wM (X : Cx) (id : String) : V → List V → Hp → VK → Prop := fun x xs H Q => ∀ (pins : List (Addr × Obj)) (s : Shared) (σ : L2.St) (v : Value) (us : List Value), Inv X pins σ H s → RelV x v → Vals xs us → wpAny (model X.prog X.w) X.A (call (.builtin id) (v :: us)) (EP X pins σ Q) X.xe s
theorem wM_m {id : String} : MtR X id (wM X id) := fun pins s σ H x xs v us Q I rx rv h => h pins s σ v us I rx rv
theorem wM_of {id : String} {r : V → List V → Hp → VK → Prop} (h : MtR X id r) {v : V} {xs : List V} {H : Hp} {Q : VK} (q : r v xs H Q) : wM X id v xs H Q := fun pins s σ u us I rx rv => h pins s σ H v xs u us Q I rx rv q
def M2 (X : Cx) (om : Om) (id : String) (x : D) (ds : List D) (Q : DK) : Prop := ∀ (om0 : Om) (H0 : Hp) (σ : L2.St) (ro : Ro) (H : Hp) (v : V) (vs : List V), Ok X.K om0 H0 om H σ ro → Rep X.K om H x v → RepL X.K om H ds vs →
  wM X id v vs H fun w H' => ∃ d om', Q d om' ∧ Ok X.K om0 H0 om' H' σ ro ∧ Rep X.K om' H' d w
/-- whose methods x has -/
inductive Rc (om : Om) : D → String → Prop
  | str {s : Str} : Rc om (.str s) "str"
  | lst {x : D} {ds : List D} (l : Lr om x ds) : Rc om x "list"
  | dct {p : Addr} {kvs : List (Key × D)} (h : om p = some (.dct kvs)) : Rc om (.obj p) "dict"
theorem Rc.ty {K : PySem.W.Frag} {H : Hp} {T : String} {v : V} (h : Rc om x T) (S : StoreOk K om H) (r : Rep K om H x v) : tyV K T v H := by
  cases h with
  | str => cases r; rfl
  | lst l =>
    obtain ⟨p, xs, rfl, h1, _⟩ := l.rep S r
    exact .inl ⟨rfl, xs, SqL.of h1⟩
  | dct h =>
    cases r
    obtain ⟨kvs', h1, _⟩ := S _ _ h
    exact .inr (.inr (.inl ⟨rfl, .inl ⟨_, h1⟩⟩))
theorem e_bm {o : Expr} {T id : String} {name : Str} {apos cpos : Pos} {Q : DK} (pa : PlainAttrs T) (slot : Slot T name id) (hty : typeOf (.builtin id) = pure (.type "method_descriptor"))
    (h : we X R ro om o fun x om1 => Rc om1 x T ∧ wa X R ro om1 (e :: es) fun ds om2 => M2 X om2 id x ds Q)
    (hbase : attributeBase o name X.env (eval o X.env) = eval o X.env := by rfl)
    (hfew : ((backTo cpos (starEach (e :: es) X.env)).all (fun x => !x.1) && (backToKw cpos (keywordEach [] X.env)).all (fun x => x.1.isSome) && decide ((e :: es).length + ([] : List Keyword).length + (if ([] : List Keyword).isEmpty then 0 else 1) < 30)) = true := by rfl)
    (hline : (apos.endLine == cpos.line) = true := by rfl) (hs : starEach (e :: es) X.env = (false, eval e X.env) :: starEach es X.env := by rfl) (hplain : (backTo cpos (starEach es X.env)).any (·.1) = false := by rfl) :
    we X R ro om (.Call (.Attribute o name apos) (e :: es) [] cpos) Q := .mk fun om0 H0 t σ H ok => by
  refine pE_of (pe_bm pa slot hty wM_m pE_pe pA_pa hbase hfew hline hs hplain) ?_
  refine pE_mono (h om0 H0 t σ H ok) fun v H1 ⟨x, om1, ⟨rc, q⟩, o1, r⟩ => ⟨rc.ty o1.store r, ?_⟩
  refine pA_mono (q om1 H1 (t.at o1.stab) σ H1 ⟨o1.store, Stable.refl, o1.slot, o1.len⟩) fun vs H2 ⟨ds, om2, q2, o2, r2⟩ => ?_
  exact q2 om0 H0 σ ro H2 v vs ⟨o2.store, o1.stab.trans o2.stab, o2.slot, o2.len⟩ (r.mono o2.stab) r2
theorem e_bm0 {o : Expr} {T id : String} {name : Str} {apos cpos : Pos} {Q : DK} (pa : PlainAttrs T) (slot : Slot T name id) (hty : typeOf (.builtin id) = pure (.type "method_descriptor"))
    (h : we X R ro om o fun x om1 => Rc om1 x T ∧ M2 X om1 id x [] Q)
    (hbase : attributeBase o name X.env (eval o X.env) = eval o X.env := by rfl) (hline : (apos.endLine == cpos.line) = true := by rfl) : we X R ro om (.Call (.Attribute o name apos) [] [] cpos) Q := .mk fun om0 H0 t σ H ok => by
  refine pE_of (pe_bm0 pa slot hty wM_m pE_pe hbase hline) ?_
  refine pE_mono (h om0 H0 t σ H ok) fun v H1 ⟨x, om1, ⟨rc, q⟩, o1, r⟩ => ⟨rc.ty o1.store r, ?_⟩
  exact q om0 H0 σ ro H1 v [] o1 r rfl
theorem m_append {p : Addr} {ds : List D} {d : D} {Q : DK} (h : om p = some (.lst ds)) (hz : ds.length < sizeLine) (q : Q .non (ups om p (.lst (ds ++ [d])))) : M2 X om "list.append" (.obj p) [d] Q := fun om0 H0 σ ro H v vs o r rv => by
  cases r
  obtain ⟨u, rfl, ru⟩ := one_rep rv
  obtain ⟨xs, h1, r1⟩ := o.store _ _ h
  refine wM_of mt_append ⟨p, xs, u, rfl, rfl, h1, by rw [← r1.length]; exact hz, _, _, q, o.to (o.store.put h ⟨_, upd_same, (r1.app (RepL.one ru)).mono (Stable.put h)⟩) (Stable.put h), rfl⟩
theorem m_pop {p : Addr} {ds : List D} {d : D} {Q : DK} (h : om p = some (.lst ds)) (hd : ds[ds.length - 1]? = some d) (q : Q d (ups om p (.lst ds.dropLast))) : M2 X om "list.pop" (.obj p) [] Q := fun om0 H0 σ ro H v vs o r rv => by
  cases r
  cases rv
  obtain ⟨xs, h1, r1⟩ := o.store _ _ h
  obtain ⟨u, h2, ru⟩ := r1.get hd
  refine wM_of mt_pop ⟨p, xs, u, rfl, rfl, h1, by rw [← r1.length]; exact h2, _, _, q, o.to (o.store.put h ⟨_, upd_same, ?_⟩) (Stable.put h), ru.mono (Stable.put h)⟩
  rw [List.dropLast_eq_take, List.dropLast_eq_take, r1.length]
  exact (r1.take _).mono (Stable.put h)
theorem m_clear {p : Addr} {ds : List D} {Q : DK} (h : om p = some (.lst ds)) (q : Q .non (ups om p (.lst []))) : M2 X om "list.clear" (.obj p) [] Q := fun om0 H0 σ ro H v vs o r rv => by
  cases r
  cases rv
  obtain ⟨xs, h1, r1⟩ := o.store _ _ h
  exact wM_of mt_clear ⟨p, xs, rfl, rfl, h1, _, _, q, o.to (o.store.put h ⟨_, upd_same, rfl⟩) (Stable.put h), rfl⟩
theorem m_extend {p : Addr} {ds es : List D} {Q : DK} (h : om p = some (.lst ds)) (l : Lr om y es) (hz : ds.length + es.length ≤ sizeLine) (q : Q .non (ups om p (.lst (ds ++ es)))) : M2 X om "list.extend" (.obj p) [y] Q := fun om0 H0 σ ro H v vs o r rv => by
  cases r
  obtain ⟨u, rfl, ru⟩ := one_rep rv
  obtain ⟨xs, h1, r1⟩ := o.store _ _ h
  obtain ⟨p', ys, rfl, h2, r2⟩ := l.rep o.store ru
  refine wM_of mt_extend ⟨p, p', xs, ys, rfl, rfl, h1, h2, by rw [← r1.length, ← r2.length]; exact hz, _, _, q, o.to (o.store.put h ⟨_, upd_same, (r1.app r2).mono (Stable.put h)⟩) (Stable.put h), rfl⟩
theorem m_join {s : Str} {ss : List Str} {Q : DK} (l : Lr om y (ss.map .str)) (hz : (ss.map (·.length)).sum + ss.length * s.length ≤ 16777216) (q : Q (.str (Txt.join s ss)) om) : M2 X om "str.join" (.str s) [y] Q := fun om0 H0 σ ro H v vs o r rv => by
  cases r
  obtain ⟨u, rfl, ru⟩ := one_rep rv
  obtain ⟨p, xs, rfl, h1, r1⟩ := l.rep o.store ru
  cases r1.strs
  exact wM_of mt_join ⟨s, p, ss, rfl, rfl, .inl (SqL.of h1), hz, _, _, q, o, rfl⟩
theorem m_split {s t : Str} {Q : DK} (ht : (t.length == 0) = false) (hz : s.length + 2 ≤ sizeLine) (q : ∀ p, om p = none → Q (.obj p) (ups om p (.lst ((Txt.split s t).map .str)))) : M2 X om "str.split" (.str s) [.str t] Q := fun om0 H0 σ ro H v vs o r rv => by
  cases r
  obtain ⟨u, rfl, ru⟩ := one_rep rv
  cases ru
  exact wM_of mt_split ⟨s, t, rfl, rfl, ht, hz, fun p n => ⟨_, _, q p (o.store.fresh n), o.newl n RepL.of_strs, rfl⟩⟩
/-- method calls that are values, new lists -/
theorem v_join {o : Expr} {s : Str} {ss : List Str} {apos cpos : Pos} (h : wv X ro om o (.str s)) (k : wv X ro om e y) (l : Lr om y (ss.map .str)) (hz : (ss.map (·.length)).sum + ss.length * s.length ≤ 16777216) (hbase : attributeBase o "join" X.env (eval o X.env) = eval o X.env := by rfl)
    (hfew : ((backTo cpos (starEach [e] X.env)).all (fun x => !x.1) && (backToKw cpos (keywordEach [] X.env)).all (fun x => x.1.isSome) && decide ([e].length + ([] : List Keyword).length + (if ([] : List Keyword).isEmpty then 0 else 1) < 30)) = true := by rfl)
    (hline : (apos.endLine == cpos.line) = true := by rfl) (hs : starEach [e] X.env = (false, eval e X.env) :: starEach [] X.env := by rfl) (hplain : (backTo cpos (starEach [] X.env)).any (·.1) = false := by rfl) :
    wv X ro om (.Call (.Attribute o "join" apos) [e] [] cpos) (.str (Txt.join s ss)) := .mk fun R Q q =>
  e_bm F.plainAttrs_str F.slot_str_join F.type_str_join (h R _ ⟨.str, a_cons (k R _ (a_nil (m_join l hz q))) hs⟩) hbase hfew hline hs hplain
theorem n_split {o : Expr} {s t : Str} {apos cpos : Pos} (h : wv X ro om o (.str s)) (k : wv X ro om e (.str t)) (ht : (t.length == 0) = false) (hz : s.length + 2 ≤ sizeLine) (hbase : attributeBase o "split" X.env (eval o X.env) = eval o X.env := by rfl)
    (hfew : ((backTo cpos (starEach [e] X.env)).all (fun x => !x.1) && (backToKw cpos (keywordEach [] X.env)).all (fun x => x.1.isSome) && decide ([e].length + ([] : List Keyword).length + (if ([] : List Keyword).isEmpty then 0 else 1) < 30)) = true := by rfl)
    (hline : (apos.endLine == cpos.line) = true := by rfl) (hs : starEach [e] X.env = (false, eval e X.env) :: starEach [] X.env := by rfl) (hplain : (backTo cpos (starEach [] X.env)).any (·.1) = false := by rfl) :
    wn X ro om (.Call (.Attribute o "split" apos) [e] [] cpos) ((Txt.split s t).map .str) := .mk fun R Q q =>
  e_bm F.plainAttrs_str F.slot_str_split F.type_str_split (h R _ ⟨.str, a_cons (k R _ (a_nil (m_split ht hz q))) hs⟩) hbase hfew hline hs hplain
end
end Mo

set_option Elab.async false
set_option linter.all false
set_option maxRecDepth 100000
set_option maxHeartbeats 4000000
set_option autoImplicit false
/-! Tests, attributes, statements, calls of the text's own defs, loops, comprehensions. -/
namespace Mo
open PySem PySem.Spec PyProof.Rows L2

section
variable {X : Cx} {R : RX} {ro : Ro} {om : Om} {e a b c : Expr} {es : List Expr} {st : Stmt} {sts rest : List Stmt} {F : De} {pos : Pos} {x y z d : D}

/-! ### tests -/
theorem t_val {Q : Bool → Om → Prop} (h : we X R ro om e fun d om1 => ∃ k, d = .bl k ∧ Q k om1) (he : ∀ whole, isTrue e X.env whole = (do let v ← whole; standAt e.pos; holding [v] (truthy v)) := by intro _; rfl) : wt X R ro om e Q := .mk fun om0 H0 t σ H o => by
  refine pT_of (pt_val pE_pe he) ?_
  refine pE_mono (h om0 H0 t σ H o) fun v H1 ⟨d, om1, ⟨k, ek, q⟩, o1, r⟩ => ?_
  subst ek
  cases r
  exact ⟨k, rfl, om1, q, o1⟩
theorem tv_val {k : Bool} (h : wv X ro om e (.bl k)) (he : ∀ whole, isTrue e X.env whole = (do let v ← whole; standAt e.pos; holding [v] (truthy v)) := by intro _; rfl) : wtv X ro om e k := .mk fun R Q q => t_val (h R _ ⟨k, rfl, q⟩) he
theorem tv_not {k : Bool} (h : wtv X ro om e k) : wtv X ro om (.UnaryOp .Not e pos) (!k) := .mk fun R Q q => .mk fun om0 H0 t σ H o => by
  refine pT_of (pt_not pT_pt) ?_
  exact pT_mono (h R (fun k' om' => k' = k ∧ om' = om) ⟨rfl, rfl⟩ om0 H0 t σ H o) fun k' H1 ⟨om1, ⟨e1, e2⟩, o1⟩ => by
    subst e1 e2
    exact ⟨_, q, o1⟩
theorem v_not {k : Bool} (h : wv X ro om e (.bl k)) : wv X ro om (.UnaryOp .Not e pos) (.bl (!k)) := .mk fun R Q q => .mk fun om0 H0 t σ H o => by
  refine pE_of (pe_not pE_pe) ?_
  refine pE_mono (h R (fun k' om' => k' = .bl k ∧ om' = om) ⟨rfl, rfl⟩ om0 H0 t σ H o) fun v H1 ⟨d, om1, ⟨e1, e2⟩, o1, r1⟩ => ?_
  subst e1 e2
  exact ⟨k, r1, _, _, q, o1, rfl⟩
theorem v_neg {i : Int} (h : wv X ro om e (.int i)) : wv X ro om (.UnaryOp .USub e pos) (.int (-i)) := .mk fun R Q q => .mk fun om0 H0 t σ H o => by
  refine pE_of (pe_un un_neg pE_pe) ?_
  refine pE_mono (h R (fun k' om' => k' = .int i ∧ om' = om) ⟨rfl, rfl⟩ om0 H0 t σ H o) fun v H1 ⟨d, om1, ⟨e1, e2⟩, o1, r1⟩ => ?_
  subst e1 e2
  exact ⟨i, r1, _, _, q, o1, rfl⟩
/-- and, or, as tests -/
def pW (X : Cx) (e : Expr) : TT := fun σ H Q => ∀ (whole : Sem Value) (pins : List (Addr × Obj)) (s : Shared), Inv X pins σ H s → wpAny (model X.prog X.w) X.A (isTrue e X.env whole) (TP X pins σ Q) X.xe s
theorem pW_pw : PW X e (pW X e) := ⟨fun whole pins s _ _ _ I h => h whole pins s I⟩
theorem pW_of {t : TT} {σ : L2.St} {H : Hp} (h : PW X e t) {Q : Bool → Hp → Prop} (q : t σ H Q) : pW X e σ H Q := fun whole pins s I => h.run whole pins s σ H Q I q
theorem pW_mono {σ : L2.St} {H : Hp} {Q Q' : Bool → Hp → Prop} (h : pW X e σ H Q) (k : ∀ v H', Q v H' → Q' v H') : pW X e σ H Q' := fun whole pins s I => thn (h whole pins s I) fun u s' ⟨H', I', q⟩ => ⟨H', I', k u H' q⟩
structure wb (X : Cx) (ro : Ro) (om : Om) (op : BoolOp) (es : List Expr) (pos : Pos) (k : Bool) : Prop where
  go : ∀ (R : RX) (om0 : Om) (H0 : Hp), Tk X om0 H0 R → ∀ (σ : L2.St) (H : Hp), Ok X.K om0 H0 om H σ ro → pW X (.BoolOp op es pos) σ H fun k' H' => k' = k ∧ Ok X.K om0 H0 om H' σ ro
instance {X : Cx} {ro : Ro} {om : Om} {op : BoolOp} {es : List Expr} {pos : Pos} {k : Bool} : CoeFun (wb X ro om op es pos k) (fun _ => ∀ (R : RX) (om0 : Om) (H0 : Hp), Tk X om0 H0 R → ∀ (σ : L2.St) (H : Hp), Ok X.K om0 H0 om H σ ro → pW X (.BoolOp op es pos) σ H fun k' H' => k' = k ∧ Ok X.K om0 H0 om H' σ ro) := ⟨wb.go⟩
theorem tv_bool {op : BoolOp} {k : Bool} (h : wb X ro om op es pos k) : wtv X ro om (.BoolOp op es pos) k := .mk fun R Q q => .mk fun om0 H0 t σ H o =>
  pT_of (PW.pt pW_pw) (pW_mono (h R om0 H0 t σ H o) fun k' H' ⟨e1, o1⟩ => by subst e1; exact ⟨om, q, o1⟩)
theorem tv_run {k : Bool} (h : wtv X ro om e k) {om0 : Om} {H0 : Hp} (t : Tk X om0 H0 R) {σ : L2.St} {H : Hp} (o : Ok X.K om0 H0 om H σ ro) {Q : Bool → Hp → Prop} (q : ∀ H', Ok X.K om0 H0 om H' σ ro → Q k H') : pT X e σ H Q :=
  pT_mono (h R (fun k' om' => k' = k ∧ om' = om) ⟨rfl, rfl⟩ om0 H0 t σ H o) fun k' H1 ⟨om1, ⟨e1, e2⟩, o1⟩ => by subst e1 e2; exact q H1 o1
theorem v_run (h : wv X ro om e d) {om0 : Om} {H0 : Hp} (t : Tk X om0 H0 R) {σ : L2.St} {H : Hp} (o : Ok X.K om0 H0 om H σ ro) {Q : VK} (q : ∀ v H', Ok X.K om0 H0 om H' σ ro → Rep X.K om H' d v → Q v H') : pE X e σ H Q :=
  pE_mono (h R (fun k' om' => k' = d ∧ om' = om) ⟨rfl, rfl⟩ om0 H0 t σ H o) fun k' H1 ⟨d1, om1, ⟨e1, e2⟩, o1, r1⟩ => by subst e1 e2; exact q _ H1 o1 r1
theorem b_and1 {k : Bool} (h : wtv X ro om a k) : wb X ro om .And [a] pos k := .mk fun R om0 H0 t σ H o => pW_of (pw_and1 pT_pt) (tv_run h t o fun H' o' => ⟨rfl, o'⟩)
theorem b_or1 {k : Bool} (h : wtv X ro om a k) : wb X ro om .Or [a] pos k := .mk fun R om0 H0 t σ H o => pW_of (pw_or1 pT_pt) (tv_run h t o fun H' o' => ⟨rfl, o'⟩)
theorem b_and {k k' : Bool} (h : wtv X ro om a k) (g : k = true → wb X ro om .And (b :: es) pos k') : wb X ro om .And (a :: b :: es) pos (k && k') := .mk fun R om0 H0 t σ H o => by
  refine pW_of (pw_and pT_pt pW_pw) (tv_run h t o fun H' o' => ?_)
  cases k with
  | true => exact pW_mono (g rfl R om0 H0 t σ H' o') fun _ _ q => q
  | false => exact ⟨rfl, o'⟩
theorem b_or {k k' : Bool} (h : wtv X ro om a k) (g : k = false → wb X ro om .Or (b :: es) pos k') : wb X ro om .Or (a :: b :: es) pos (k || k') := .mk fun R om0 H0 t σ H o => by
  refine pW_of (pw_or pT_pt pW_pw) (tv_run h t o fun H' o' => ?_)
  cases k with
  | true => exact ⟨rfl, o'⟩
  | false => exact pW_mono (g rfl R om0 H0 t σ H' o') fun _ _ q => q
/-- and, or, as truth values -/
theorem v_bool1 {op : BoolOp} (h : wv X ro om a d) : wv X ro om (.BoolOp op [a] pos) d := .mk fun R Q q => .mk fun om0 H0 t σ H o => pE_of (pe_one pE_pe) (v_run h t o fun v H' o' r => ⟨_, _, q, o', r⟩)
theorem v_and {k k' : Bool} (h : wv X ro om a (.bl k)) (g : k = true → wv X ro om (.BoolOp .And (b :: es) pos) (.bl k')) : wv X ro om (.BoolOp .And (a :: b :: es) pos) (.bl (k && k')) := .mk fun R Q q => .mk fun om0 H0 t σ H o => by
  refine pE_of (pe_and pE_pe pE_pe) (v_run h t o fun v H' o' r => ⟨k, r, ?_⟩)
  cases k with
  | true => exact v_run (g rfl) t o' fun v H' o' r => ⟨_, _, q, o', r⟩
  | false => exact ⟨_, _, q, o', rfl⟩
theorem v_or {k k' : Bool} (h : wv X ro om a (.bl k)) (g : k = false → wv X ro om (.BoolOp .Or (b :: es) pos) (.bl k')) : wv X ro om (.BoolOp .Or (a :: b :: es) pos) (.bl (k || k')) := .mk fun R Q q => .mk fun om0 H0 t σ H o => by
  refine pE_of (pe_or pE_pe pE_pe) (v_run h t o fun v H' o' r => ⟨k, r, ?_⟩)
  cases k with
  | true => exact ⟨_, _, q, o', rfl⟩
  | false => exact v_run (g rfl) t o' fun v H' o' r => ⟨_, _, q, o', r⟩
/-- a op b op' c -/
theorem Op.run {f : Value → Value → Sem Value} (h : Op X om f x y z) {om0 : Om} {H0 : Hp} {σ : L2.St} {H : Hp} {v u : V} (o : Ok X.K om0 H0 om H σ ro) (rx : Rep X.K om H x v) (ry : Rep X.K om H y u) {Q : VK} (q : ∀ w H', Ok X.K om0 H0 om H' σ ro → Rep X.K om H' z w → Q w H') : wR X f v u H Q :=
  fun pins s σ' v' u' I rv ru => thn (h (fun d om' => d = z ∧ om' = om) ⟨rfl, rfl⟩ om0 H0 σ ro H v u o rx ry pins s σ' v' u' I rv ru) fun w s' ⟨w', H3, I3, rw, d, om3, ⟨e1, e2⟩, o3, r3⟩ => by
    subst e1 e2
    exact ⟨w', H3, I3, rw, q w' H3 o3 r3⟩
theorem v_chain {op op' : CmpOp} {k k' : Bool} (h : wv X ro om a x) (g : wv X ro om b y) (o1 : Op X om (compareOp op) x y (.bl k)) (g' : k = true → wv X ro om c z) (o2 : k = true → Op X om (compareOp op') y z (.bl k')) (hm : lastMarks [op, op'] [b, c] = false := by with_unfolding_all rfl) :
    wv X ro om (.Compare a [op, op'] [b, c] pos) (.bl (k && k')) := .mk fun R Q q => .mk fun om0 H0 t σ H o => by
  refine pE_of (pe_chain wR_op wR_op pE_pe pE_pe pE_pe hm) (v_run h t o fun v H1 ok1 r1 => ?_)
  refine v_run g (t.at ok1.stab) (om0 := om) (H0 := H1) ⟨ok1.store, Stable.refl, ok1.slot, ok1.len⟩ fun u H2 ok2 r2 => ?_
  refine o1.run (om0 := om) (H0 := H2) (σ := σ) (ro := ro) ⟨ok2.store, Stable.refl, ok2.slot, ok2.len⟩ (r1.mono ok2.stab) r2 fun w H3 ok3 r3 => ?_
  refine ⟨k, r3, ?_⟩
  have s3 : Stable om0 H0 om H3 := (ok1.stab.trans ok2.stab).trans ok3.stab
  cases k with
  | false => exact ⟨_, _, q, ⟨ok3.store, s3, ok3.slot, ok3.len⟩, rfl⟩
  | true =>
    refine v_run (g' rfl) (t.at s3) (om0 := om) (H0 := H3) ⟨ok3.store, Stable.refl, ok3.slot, ok3.len⟩ fun u4 H4 ok4 r4 => ?_
    refine (o2 rfl).run (om0 := om0) (H0 := H0) (σ := σ) (ro := ro) ⟨ok4.store, s3.trans ok4.stab, ok4.slot, ok4.len⟩ ((r2.mono ok3.stab).mono ok4.stab) r4 fun w5 H5 ok5 r5 => ⟨_, _, q, ok5, r5⟩
theorem tv_chain {op op' : CmpOp} {k k' : Bool} (h : wv X ro om a x) (g : wv X ro om b y) (o1 : Op X om (compareOp op) x y (.bl k)) (g' : k = true → wv X ro om c z) (o2 : k = true → Op X om (compareOp op') y z (.bl k')) (hm : lastMarks [op, op'] [b, c] = false := by with_unfolding_all rfl) :
    wtv X ro om (.Compare a [op, op'] [b, c] pos) (k && k') := .mk fun R Q q => .mk fun om0 H0 t σ H o => by
  refine pT_of (pt_chain wR_op wR_op pE_pe pE_pe pE_pe hm) (v_run h t o fun v H1 ok1 r1 => ?_)
  refine v_run g (t.at ok1.stab) (om0 := om) (H0 := H1) ⟨ok1.store, Stable.refl, ok1.slot, ok1.len⟩ fun u H2 ok2 r2 => ?_
  refine o1.run (om0 := om) (H0 := H2) (σ := σ) (ro := ro) ⟨ok2.store, Stable.refl, ok2.slot, ok2.len⟩ (r1.mono ok2.stab) r2 fun w H3 ok3 r3 => ?_
  refine ⟨k, r3, ?_⟩
  have s3 : Stable om0 H0 om H3 := (ok1.stab.trans ok2.stab).trans ok3.stab
  cases k with
  | false => exact ⟨_, rfl, _, q, ⟨ok3.store, s3, ok3.slot, ok3.len⟩⟩
  | true =>
    refine v_run (g' rfl) (t.at s3) (om0 := om) (H0 := H3) ⟨ok3.store, Stable.refl, ok3.slot, ok3.len⟩ fun u4 H4 ok4 r4 => ?_
    refine (o2 rfl).run (om0 := om0) (H0 := H0) (σ := σ) (ro := ro) ⟨ok4.store, s3.trans ok4.stab, ok4.slot, ok4.len⟩ ((r2.mono ok3.stab).mono ok4.stab) r4 fun w5 H5 ok5 r5 => ?_
    cases r5
    exact ⟨_, rfl, _, q, ok5⟩

/-! ### attributes -/
theorem lk_rep {K : PySem.W.Frag} {H : Hp} {f : Str} : ∀ {fs : List (Str × D)} {fs' : List (Str × V)}, fs'.map (·.1) = fs.map (·.1) → RepL K om H (fs.map (·.2)) (fs'.map (·.2)) → fs.lookup f = some z → ∃ w, fs'.lookup f = some w ∧ Rep K om H z w
  | [], _, _, _, h => by cases h
  | (g, d) :: r, [], e, _, _ => by simp at e
  | (g, d) :: r, (g', v) :: r', e, q, h => by
    simp only [List.map_cons, List.cons.injEq] at e
    obtain ⟨rfl, e⟩ := e
    obtain ⟨x, t, ex, q1, q2⟩ := q
    simp only [List.map_cons, List.cons.injEq] at ex
    obtain ⟨rfl, rfl⟩ := ex
    rw [List.lookup_cons] at h ⊢
    cases hg : f == g' with
    | true => rw [hg] at h; cases h; exact ⟨v, rfl, q1⟩
    | false => rw [hg] at h; exact lk_rep e q2 h
theorem lk_none {f : Str} : ∀ {fs : List (Str × D)} {fs' : List (Str × V)}, fs'.map (·.1) = fs.map (·.1) → fs.lookup f = none → fs'.lookup f = none
  | [], [], _, _ => rfl
  | [], _ :: _, e, _ => by simp at e
  | _ :: _, [], e, _ => by simp at e
  | (g, d) :: r, (g', v) :: r', e, h => by
    simp only [List.map_cons, List.cons.injEq] at e
    obtain ⟨rfl, e⟩ := e
    rw [List.lookup_cons] at h ⊢
    cases hg : f == g' with
    | true => rw [hg] at h; cases h
    | false => rw [hg] at h; exact lk_none e h
/-- what an attribute's read asks of the class -/
structure Att (K : PySem.W.Frag) (C : Addr) (f : Str) : Prop where
  cl : Cls K C
  no : NoAttr K C f
theorem v_fld {f : Str} {p C : Addr} {fs : List (Str × D)} (h : wv X ro om e (.obj p)) (hp : om p = some (.ins C fs)) (A : Att X.K C f) (hl : fs.lookup f = some z) (hb : attributeBase e f X.env (eval e X.env) = eval e X.env := by rfl) : wv X ro om (.Attribute e f pos) z := .mk fun R Q q => .mk fun om0 H0 t σ H o =>
  pE_of (pe_fld pE_pe hb) (v_run h t o fun v H' o' r => by
    cases r
    obtain ⟨dx, fs', h1, h2, h3⟩ := o'.store _ _ hp
    obtain ⟨w, h4, h5⟩ := lk_rep h2 h3 hl
    exact ⟨p, C, dx, fs', w, rfl, h1, A.cl, A.no, h4, _, _, q, o', h5⟩)
/-- the fields behind a store -/
def putD (f : Str) (d : D) : List (Str × D) → List (Str × D)
  | [] => [(f, d)]
  | (g, v) :: r => if g = f then (g, d) :: r else (g, v) :: putD f d r
end
end Mo

set_option Elab.async false
set_option linter.all false
set_option maxRecDepth 100000
set_option maxHeartbeats 4000000
set_option autoImplicit false
/-! Statements, calls of the text's own defs, loops, comprehensions. -/
namespace Mo
open PySem PySem.Spec PyProof.Rows L2

section
variable {X : Cx} {R : RX} {ro : Ro} {om : Om} {e a b c : Expr} {es : List Expr} {st : Stmt} {sts rest : List Stmt} {F : De} {pos : Pos} {x y z d : D}

/-! ### statements -/
theorem s_asg (i : Nat) {xn : Str} {pos' : Pos} (hi : X.N[i]? = some xn) (hx : Loc X.env.scope xn) (h : we X F.ex ro om e fun d om' => F.nx (ro.set i (some d)) om') (hN : X.N.Nodup) (hs : swapsWith e (some (.Name xn pos')) pos.line X.env = pure false := by rfl)
    (hf : X.fn xn = true ∨ X.env.scope.names.lookup xn = some .local := by first | exact .inl rfl | exact .inr rfl) : w1 X F ro om (.Assign [.Name xn pos'] e pos) := .mk fun om0 H0 t σ H o => by
  refine pS_of (ps_set (i := i) hN hi hx pE_pe hs hf) ?_
  exact pE_mono (h om0 H0 t σ H o) fun v H1 ⟨d, om1, q, o1, r⟩ => ⟨_, om1, q, o1.set i r⟩
theorem s_expr (h : we X F.ex ro om e fun _ om' => F.nx ro om') (hs : swapsWith e none pos.line X.env = pure false := by rfl) : w1 X F ro om (.Expr e pos) := .mk fun om0 H0 t σ H o => by
  refine pS_of (ps_expr pE_pe hs) ?_
  exact pE_mono (h om0 H0 t σ H o) fun v H1 ⟨d, om1, q, o1, r⟩ => ⟨ro, om1, q, o1⟩
theorem s_ret (h : we X F.ex ro om e F.rt) : w1 X F ro om (.Return (some e) pos) := .mk fun om0 H0 t σ H o => by
  refine pS_of (ps_ret pE_pe) ?_
  exact pE_mono (h om0 H0 t σ H o) fun v H1 ⟨d, om1, q, o1, r⟩ => ⟨d, om1, q, o1.store, o1.stab, r⟩
/-- an object of the store is handed back as a tree -/
theorem s_retL {p : Addr} {ds : List D} (h : wv X ro om e (.obj p)) (hp : om p = some (.lst ds)) (q : F.rt (.lst ds) (dels om p)) : w1 X F ro om (.Return (some e) pos) := .mk fun om0 H0 t σ H o => by
  refine pS_of (ps_ret pE_pe) (v_run h t o fun v H1 o1 r => ?_)
  cases r
  obtain ⟨o2, r2⟩ := o1.tree (om1 := om) hp
  exact ⟨_, _, q, o2.store, o2.stab, r2⟩
theorem s_retN (q : F.rt .non om) : w1 X F ro om (.Return none pos) := .mk fun om0 H0 t σ H o => pS_of ps_retN (show (ends X.K om0 H0 F).rt .non H from ⟨.non, om, q, o.store, o.stab, rfl⟩)
theorem s_if {k : Bool} {sa sb : List Stmt} (h : wtv X ro om c k) (h1 : k = true → ws X F ro om sa) (h2 : k = false → ws X F ro om sb) : w1 X F ro om (.If c sa sb pos) := .mk fun om0 H0 t σ H o => by
  refine pS_of (ps_if pT_pt pSs_ps pSs_ps) (tv_run h t o fun H1 o1 => ?_)
  cases k with
  | true => exact iteT (h1 rfl om0 H0 t σ H1 o1)
  | false => exact iteF (h2 rfl om0 H0 t σ H1 o1)
theorem s_ifE {sa sb : List Stmt} (h : wt X F.ex ro om c fun k om' => (k = true → ws X F ro om' sa) ∧ (k = false → ws X F ro om' sb)) : w1 X F ro om (.If c sa sb pos) := .mk fun om0 H0 t σ H o => by
  refine pS_of (ps_if pT_pt pSs_ps pSs_ps) (pT_mono (h om0 H0 t σ H o) fun k H1 ⟨om1, ⟨h1, h2⟩, o1⟩ => ?_)
  cases k with
  | true => exact iteT (h1 rfl om0 H0 t σ H1 o1)
  | false => exact iteF (h2 rfl om0 H0 t σ H1 o1)
theorem s_pass (q : F.nx ro om) : w1 X F ro om (.Pass pos) := .mk fun om0 H0 t σ H o => pS_of ps_pass (show (ends X.K om0 H0 F).nx σ H from ⟨ro, om, q, o⟩)
theorem s_brk (q : F.bk ro om) : w1 X F ro om (.Break pos) := .mk fun om0 H0 t σ H o => pS_of ps_break (show (ends X.K om0 H0 F).bk σ H from ⟨ro, om, q, o⟩)
theorem s_cont (q : F.ct ro om) : w1 X F ro om (.Continue pos) := .mk fun om0 H0 t σ H o => pS_of ps_continue (show (ends X.K om0 H0 F).ct σ H from ⟨ro, om, q, o⟩)
/-- an object in a slot becomes a tree -/
theorem ws_frz (i : Nat) {p : Addr} {ds : List D} (hi : ro[i]? = some (some (.obj p))) (hp : om p = some (.lst ds)) (h : ws X F (ro.set i (some (.lst ds))) (dels om p) sts) : ws X F ro om sts := .mk fun om0 H0 t σ H o => by
  obtain ⟨o2, r2⟩ := o.tree (om1 := om) hp
  obtain ⟨v, hv, rv⟩ := o.slot i _ hi
  cases rv
  refine h om0 H0 t σ H ⟨o2.store, o2.stab, fun j d hj => ?_, by rw [List.length_set]; exact o2.len⟩
  by_cases z : i = j
  · subst z
    have hl : i < ro.length := (List.getElem?_eq_some_iff.mp hi).1
    rw [List.getElem?_set_self hl] at hj
    cases hj
    exact ⟨_, hv, r2⟩
  · rw [List.getElem?_set_ne z] at hj
    exact o2.slot j d hj
theorem fs_put {K : PySem.W.Frag} {H : Hp} {f : Str} {v : V} : ∀ {fs : List (Str × D)} {fs' : List (Str × V)}, fs'.map (·.1) = fs.map (·.1) → RepL K om H (fs.map (·.2)) (fs'.map (·.2)) → Rep K om H d v →
    (putF f v fs').map (·.1) = (putD f d fs).map (·.1) ∧ RepL K om H ((putD f d fs).map (·.2)) ((putF f v fs').map (·.2))
  | [], [], _, _, r => ⟨rfl, RepL.one r⟩
  | [], _ :: _, e, _, _ => by simp at e
  | _ :: _, [], e, _, _ => by simp at e
  | (g, w) :: fs, (g', w') :: fs', e, q, r => by
    simp only [List.map_cons, List.cons.injEq] at e
    obtain ⟨rfl, e⟩ := e
    obtain ⟨u, t, eu, q1, q2⟩ := q
    simp only [List.map_cons, List.cons.injEq] at eu
    obtain ⟨rfl, rfl⟩ := eu
    unfold putF putD
    by_cases h : g' = f
    · rw [if_pos h, if_pos h]
      exact ⟨by simp [e], ⟨_, _, rfl, r, q2⟩⟩
    · rw [if_neg h, if_neg h]
      obtain ⟨h1, h2⟩ := fs_put e q2 r
      exact ⟨by simp [h1], ⟨_, _, rfl, q1, h2⟩⟩
theorem s_fld {o : Expr} {f : Str} {pos' : Pos} (h : we X F.ex ro om e fun d om1 => we X F.ex ro om1 o fun x om2 => ∃ p C fs, x = .obj p ∧ om2 p = some (.ins C fs) ∧ Att X.K C f ∧ fs.length < 1000 ∧ F.nx ro (ups om2 p (.ins C (putD f d fs))))
    (hs : swapsWith e (some (.Attribute o f pos')) pos.line X.env = pure false := by rfl) : w1 X F ro om (.Assign [.Attribute o f pos'] e pos) := .mk fun om0 H0 t σ H ok => by
  refine pS_of (ps_fld pE_pe pE_pe hs) ?_
  refine pE_mono (h om0 H0 t σ H ok) fun v H1 ⟨d, om1, q, o1, r⟩ => ?_
  refine pE_mono (q om1 H1 (t.at o1.stab) σ H1 ⟨o1.store, Stable.refl, o1.slot, o1.len⟩) fun u H2 ⟨x, om2, ⟨p, C, fs, e1, hp, A, hl, q2⟩, o2, r2⟩ => ?_
  subst e1
  cases r2
  obtain ⟨dx, fs', h1, h2, h3⟩ := o2.store _ _ hp
  obtain ⟨h4, h5⟩ := fs_put (f := f) h2 h3 (r.mono o2.stab)
  have hl' : fs'.length < 1000 := by
    have := congrArg List.length h2
    rw [List.length_map, List.length_map] at this
    omega
  have o3 : Ok X.K om0 H0 om2 H2 σ ro := ⟨o2.store, o1.stab.trans o2.stab, o2.slot, o2.len⟩
  exact ⟨p, C, dx, fs', rfl, h1, A.cl, A.no, hl', ro, _, q2, o3.to (o2.store.put hp ⟨dx, _, upd_same, h4, h5.mono (Stable.put hp)⟩) (Stable.put hp)⟩
/-- d[k] = e, by keys -/
def putKD (kvs : List (Key × D)) (k : Key) (d : D) : List (Key × D) := if kvs.any (fun kv => decide (kv.1 = k)) then kvs.map (fun kv => if kv.1 = k then (kv.1, d) else kv) else kvs ++ [(k, d)]
/-- names unpacked from a tuple, from a list -/
theorem s_unT {es' : List Expr} {k : Nat} {tpos : Pos} {t : TGs} {n : Nat} {G : List D → Ro → Ro} (h : we X F.ex ro om e fun d om1 => ∃ ds, d = .tup ds ∧ ds.length = n ∧ F.nx (G ds ro) om1) (hc : X.calm = true) (hg : PGs X es' t)
    (hG : ∀ (om0 : Om) (H0 : Hp) (om1 : Om) (H1 : Hp) (σ : L2.St) (ds : List D) (xs : List V) (Q : L2.St → Hp → Prop), ds.length = n → Ok X.K om0 H0 om1 H1 σ ro → RepL X.K om1 H1 ds xs → (∀ σ', Ok X.K om0 H0 om1 H1 σ' (G ds ro) → Q σ' H1) → t xs σ H1 Q)
    (hn : (assignEach es' X.env).length = n := by rfl) (hst : (assignEach es' X.env).findIdx? (·.1) = none := by rfl) (hs : swapsWithSole [.Tuple es' k tpos] e pos.line X.env = pure false := by rfl) (hw : swappedStores [.Tuple es' k tpos] e X.env = pure none := by rfl)
    (h1 : (assignEach [.Tuple es' k tpos] X.env).map (·.2) = [assign (.Tuple es' k tpos) X.env] := by rfl) : w1 X F ro om (.Assign [.Tuple es' k tpos] e pos) := .mk fun om0 H0 tk σ H o => by
  refine pS_of (ps_asg pE_pe (pg_tup hc hg hn hst) hs hw h1) ?_
  refine pE_mono (h om0 H0 tk σ H o) fun v H1 ⟨d, om1, ⟨ds, ed, hl, q⟩, o1, r⟩ => ?_
  subst ed
  obtain ⟨p, xs, rfl, h2, r2⟩ := tup_rep r
  exact ⟨p, xs, rfl, h2, by rw [← r2.length]; exact hl, hG om0 H0 om1 H1 σ ds xs _ hl o1 r2 fun σ' o' => ⟨_, _, q, o'⟩⟩
def G2 (i j : Nat) : List D → Ro → Ro
  | [d1, d2], ro => (ro.set i (some d1)).set j (some d2)
  | _, ro => ro
theorem g2_ok (i j : Nat) {om0 om1 : Om} {H0 H1 : Hp} {σ : L2.St} {ds : List D} {xs : List V} {Q : L2.St → Hp → Prop} (hl : ds.length = 2) (o : Ok X.K om0 H0 om1 H1 σ ro) (r : RepL X.K om1 H1 ds xs) (q : ∀ σ', Ok X.K om0 H0 om1 H1 σ' (G2 i j ds ro) → Q σ' H1) :
    gCons (gName i) (gCons (gName j) gNil) xs σ H1 Q := by
  match ds, hl with
  | [d1, d2], _ =>
    obtain ⟨v1, t1, rfl, r1, v2, t2, rfl, r2, e⟩ := r
    cases e
    exact ⟨_, _, rfl, _, _, rfl, rfl, q _ ((o.set i r1).set j r2)⟩
def G3 (i j k : Nat) : List D → Ro → Ro
  | [d1, d2, d3], ro => ((ro.set i (some d1)).set j (some d2)).set k (some d3)
  | _, ro => ro
theorem g3_ok (i j k : Nat) {om0 om1 : Om} {H0 H1 : Hp} {σ : L2.St} {ds : List D} {xs : List V} {Q : L2.St → Hp → Prop} (hl : ds.length = 3) (o : Ok X.K om0 H0 om1 H1 σ ro) (r : RepL X.K om1 H1 ds xs) (q : ∀ σ', Ok X.K om0 H0 om1 H1 σ' (G3 i j k ds ro) → Q σ' H1) :
    gCons (gName i) (gCons (gName j) (gCons (gName k) gNil)) xs σ H1 Q := by
  match ds, hl with
  | [d1, d2, d3], _ =>
    obtain ⟨v1, t1, rfl, r1, v2, t2, rfl, r2, v3, t3, rfl, r3, e⟩ := r
    cases e
    exact ⟨_, _, rfl, _, _, rfl, _, _, rfl, rfl, q _ (((o.set i r1).set j r2).set k r3)⟩

/-! ### promises over data -/
abbrev Fs := List D → Om → DK → (Value → List (Str × D) → Om → Prop) → Prop
def spD (K : PySem.W.Frag) (n : Nat) (G : Fs) : Sp := fun vs H Q E => ∃ (om : Om) (ds : List D) (QD : DK) (RD : Value → List (Str × D) → Om → Prop), StoreOk K om H ∧ RepL K om H ds vs ∧ ds.length = n ∧ G ds om QD RD ∧
  (∀ d om' v H', QD d om' → StoreOk K om' H' → Stable om H om' H' → Rep K om' H' d v → Q v H') ∧
  (∀ c fs om' dd H', RD c fs om' → StoreOk K om' H' → Stable om H om' H' → XdOk K om' H' dd fs → E c dd H')
/-- a def of the text that keeps its promise -/
structure DefOk (P : Program) (w : World) (K : PySem.W.Frag) (mg : Str → Option Value) (base : Heap) (xn : Str) (k n : Nat) (G : Fs) : Prop where
  ex : ∃ (f : Addr) (fd : FuncData) (ps : List Str), FnOk P w K mg base (L2.CX P w) k f fd ps (spD K n G) ∧ mg xn = some (.ref f) ∧ PySem.W.keepIn K (.ref f) = true ∧ Binds K fd ps []
theorem sp_run {n : Nat} {G : Fs} {om0 om1 : Om} {H0 H1 : Hp} {σ : L2.St} {ds : List D} {vs : List V} {Q : DK} (o : Ok X.K om0 H0 om1 H1 σ ro) (r : RepL X.K om1 H1 ds vs) (hl : ds.length = n)
    (g : G ds om1 Q fun c fs om' => R c fs ro om') : spD X.K n G vs H1 (fun w H' => ∃ d om', Q d om' ∧ Ok X.K om0 H0 om' H' σ ro ∧ Rep X.K om' H' d w) (WE (Wof X.K om0 H0 R) σ) :=
  ⟨om1, ds, _, _, o.store, r, hl, g, fun d om' v H' q S s rd => ⟨d, om', q, o.to S s, rd⟩, fun c fs om' dd H' q S s x => ⟨fs, ro, om', q, o.to S s, x⟩⟩
theorem e_call {xn : Str} {k n : Nat} {G : Fs} {p : Pos} {Q : DK} (Dk : DefOk X.prog X.w X.K X.mg X.base xn k n G) (hr : Room k X.A) (h : wa X R ro om (e :: es) fun ds om1 => ds.length = n ∧ G ds om1 Q fun c fs om' => R c fs ro om')
    (hg : Gl X xn) (hdb : (xn == ("__debug__" : Str)) = false := by decide) (he : starEach (e :: es) X.env = (false, eval e X.env) :: starEach es X.env := by rfl) (hpl : (backTo pos (starEach es X.env)).any (·.1) = false := by rfl) :
    we X R ro om (.Call (.Name xn p) (e :: es) [] pos) Q := .mk fun om0 H0 t σ H o => by
  obtain ⟨f, fd, ps, Fo, hm, hk, hb⟩ := Dk.ex
  refine pE_of (pe_callS Fo hr hg hm hk hb (fun σ => passAt t σ) pA_pa hdb he hpl) ?_
  exact pA_mono (h om0 H0 t σ H o) fun vs H1 ⟨ds, om1, ⟨hl, q⟩, o1, r⟩ => sp_run o1 r hl q
theorem e_call0 {xn : Str} {k : Nat} {G : Fs} {p : Pos} {Q : DK} (Dk : DefOk X.prog X.w X.K X.mg X.base xn k 0 G) (hr : Room k X.A) (h : G [] om Q fun c fs om' => R c fs ro om') (hg : Gl X xn) (hdb : (xn == ("__debug__" : Str)) = false := by decide) :
    we X R ro om (.Call (.Name xn p) [] [] pos) Q := .mk fun om0 H0 t σ H o pins s I => by
  obtain ⟨f, fd, ps, Fo, hm, hk, hb⟩ := Dk.ex
  refine wpAny_Call_Name_kw (ld_glob I hg hm ?_ hdb)
  exact PySem.W.callWith_K0 I.kIn hk (run_fnS (us := []) Fo hr hb (passAt t σ) I .nil (sp_run o (show RepL X.K om H [] [] from rfl) rfl h))
/-- a def's pure use -/
structure Pu (G : Fs) (om : Om) (ds : List D) (z : D) : Prop where
  go : ∀ (Q : DK) (Rr : Value → List (Str × D) → Om → Prop), Q z om → G ds om Q Rr
instance {G : Fs} {om : Om} {ds : List D} {z : D} : CoeFun (Pu G om ds z) (fun _ => ∀ (Q : DK) (Rr : Value → List (Str × D) → Om → Prop), Q z om → G ds om Q Rr) := ⟨Pu.go⟩
theorem v_call {xn : Str} {k n : Nat} {G : Fs} {p : Pos} {ds : List D} (Dk : DefOk X.prog X.w X.K X.mg X.base xn k n G) (hr : Room k X.A) (h : wav X ro om (e :: es) ds) (hl : ds.length = n) (g : Pu G om ds z)
    (hg : Gl X xn) (hdb : (xn == ("__debug__" : Str)) = false := by decide) (he : starEach (e :: es) X.env = (false, eval e X.env) :: starEach es X.env := by rfl) (hpl : (backTo pos (starEach es X.env)).any (·.1) = false := by rfl) :
    wv X ro om (.Call (.Name xn p) (e :: es) [] pos) z := .mk fun R Q q => e_call Dk hr (h R _ ⟨hl, g _ _ q⟩) hg hdb he hpl
/-- how a def keeps it -/
def startD (N : List Str) (ds : List D) : Ro := ds.map some ++ List.replicate (N.length - ds.length) none
theorem start_slot {K : PySem.W.Frag} {H : Hp} {ds : List D} {vs : List V} {n : Nat} (r : RepL K om H ds vs) {i : Nat} {d : D} (h : (ds.map some ++ List.replicate n none)[i]? = some (some d)) : ∃ v, (vs.map some ++ List.replicate n none)[i]? = some (some v) ∧ Rep K om H d v := by
  by_cases hi : i < ds.length
  · rw [List.getElem?_append_left (by rw [List.length_map]; exact hi), List.getElem?_map] at h
    cases q : ds[i]? with
    | none => rw [q] at h; cases h
    | some d' =>
      rw [q] at h
      cases h
      obtain ⟨v, h1, h2⟩ := r.get q
      refine ⟨v, ?_, h2⟩
      rw [List.getElem?_append_left (by rw [List.length_map, ← r.length]; exact hi), List.getElem?_map, h1]
      rfl
  · rw [List.getElem?_append_right (by rw [List.length_map]; omega)] at h
    have := List.mem_of_getElem? h
    rw [List.mem_replicate] at this
    cases this.2
theorem start_ok {K : PySem.W.Frag} {H : Hp} {ds : List D} {vs : List V} {N : List Str} (S : StoreOk K om H) (r : RepL K om H ds vs) : Ok K om H om H (L2.start N vs) (startD N ds) := by
  refine ⟨S, Stable.refl, fun i d h => ?_, ?_⟩
  · unfold startD at h
    unfold L2.start
    rw [← r.length]
    exact start_slot r h
  · unfold L2.start startD
    simp only [List.length_append, List.length_map, List.length_replicate, r.length]
/-- what is wanted of a body -/
def deOf (Q : DK) (Rr : Value → List (Str × D) → Om → Prop) : De := ⟨fun _ om => Q .non om, Q, fun _ _ => False, fun _ _ => False, fun c fs _ om => Rr c fs om⟩
theorem def_ok {P : Program} {w : World} {K : PySem.W.Frag} {mg : Str → Option Value} {base : Heap} {xn qual : Str} {s0 : Stmt} {f : Addr} {fd : FuncData} {N ps : List Str} {k n : Nat} {G : Fs} (Fu : Fun K xn qual s0 f fd) (S : FnScope N ps (defScope s0)) (hn : ps.length = n)
    (h : ∀ (cdv : Value) (A : Around) (outer : List Env) (s : Shared) (H : Hp) (E : XK), Room k (A.deeper (envOfC qual (defScope s0) s.heap.objs.size f cdv)) → ∀ (om : Om) (ds : List D) (Q : DK) (Rr : Value → List (Str × D) → Om → Prop), ds.length = n → G ds om Q Rr →
      ws (cxOf (L2.CX P w) P w K mg base N qual (defScope s0) f cdv A outer s H E) (deOf Q Rr) (startD N ds) om (defBody s0)) : FnOk P w K mg base (L2.CX P w) (k + 1) f fd ps (spD K n G) := by
  refine Fu.okX S (fun vs H Q E ⟨om, ds, _, _, _, r, hl, _⟩ => by rw [← r.length, hl, hn]) (fun cdv A outer s H vs Q E hr hsp => ?_)
  obtain ⟨om, ds, QD, RD, St, r, hl, g, hq, he⟩ := hsp
  refine ⟨_, pSs_ps, ?_⟩
  have t0 : Takes (cxOf (L2.CX P w) P w K mg base N qual (defScope s0) f cdv A outer s H E) (fun cls d _ H' => E cls d H') := takes_of rfl rfl rfl rfl
  have t : Tk (cxOf (L2.CX P w) P w K mg base N qual (defScope s0) f cdv A outer s H E) om H (deOf QD RD).ex := Takes.imp t0 fun c d σ H' ⟨fs, ro, om', q, o, x⟩ => he c fs om' d H' q o.store o.stab x
  refine pSs_mono (h cdv A outer s H E hr om ds QD RD hl g om H t _ H (start_ok St r)) ⟨fun σ H' ⟨ro, om', q, o⟩ => hq .non om' .non H' q o.store o.stab rfl, fun v H' ⟨d, om', q, S', s', r'⟩ => hq d om' v H' q S' s' r', fun σ H' ⟨ro, om', q, o⟩ => q.elim, fun σ H' ⟨ro, om', q, o⟩ => q.elim⟩

/-! ### loops -/
/-- the iterator walks the items ds, while P holds of the store -/
def JOk (K : PySem.W.Frag) (om1 : Om) (H1 : Hp) (J : It) (ds : List D) (Pm : Om → Prop) : Prop := ∀ (om2 : Om) (H2 : Hp), StoreOk K om2 H2 → Stable om1 H1 om2 H2 → Pm om2 →
  (∀ (i : Nat) (d : D), ds[i]? = some d → J.go i H2 ∧ ∀ x H3, J.yld i H2 x H3 → StoreOk K om2 H3 ∧ Stable om2 H2 om2 H3 ∧ Rep K om2 H3 d x) ∧ J.stop ds.length H2
def Itd (X : Cx) (ro : Ro) (om : Om) (tg iter : Expr) (ds : List D) (Pm : Om → Prop) : Prop := ∀ (R : RX) (om0 : Om) (H0 : Hp), Tk X om0 H0 R → ∀ (σ : L2.St) (H : Hp), Ok X.K om0 H0 om H σ ro →
  pI X tg iter σ H fun J H1 => Ok X.K om0 H0 om H1 σ ro ∧ JOk X.K om H1 J ds Pm
theorem it_L {tg : Expr} {ds : List D} (h : wv X ro om e x) (l : Lr om x ds) : Itd X ro om tg e ds (fun om2 => Lr om2 x ds) := fun R om0 H0 t σ H o => by
  refine pI_of (pi_list pE_pe) (v_run h t o fun v H1 o1 r => ?_)
  obtain ⟨p, xs, rfl, h1, r1⟩ := l.rep o1.store r
  refine ⟨p, rfl, ⟨xs, SqL.of h1⟩, o1, fun om2 H2 S2 s2 l2 => ?_⟩
  obtain ⟨p', xs', e', h2, r2⟩ := l2.rep S2 (r.mono s2)
  cases e'
  refine ⟨fun i d hi => ?_, ⟨xs', SqL.of h2, Nat.le_of_eq r2.length.symm⟩⟩
  obtain ⟨u, h3, r3⟩ := r2.get hi
  refine ⟨⟨xs', u, SqL.of h2, h3⟩, fun x' H3 ⟨e3, y3⟩ => ?_⟩
  subst e3
  have := y3 xs' (SqL.of h2)
  rw [h3] at this
  cases this
  exact ⟨S2, Stable.refl, r3⟩
theorem it_T {tg : Expr} {ds : List D} (h : wv X ro om e (.tup ds)) : Itd X ro om tg e ds (fun _ => True) := fun R om0 H0 t σ H o => by
  refine pI_of (pi_tup pE_pe) (v_run h t o fun v H1 o1 r => ?_)
  obtain ⟨p, xs, rfl, h1, r1⟩ := tup_rep r
  refine ⟨p, rfl, ⟨xs, h1⟩, o1, fun om2 H2 S2 s2 _ => ?_⟩
  obtain ⟨p', xs', e', h2, r2⟩ := tup_rep (r.mono s2)
  cases e'
  refine ⟨fun i d hi => ?_, ⟨xs', h2, Nat.le_of_eq r2.length.symm⟩⟩
  obtain ⟨u, h3, r3⟩ := r2.get hi
  refine ⟨⟨xs', u, h2, h3⟩, fun x' H3 ⟨e3, y3⟩ => ?_⟩
  subst e3
  have := y3 xs' h2
  rw [h3] at this
  cases this
  exact ⟨S2, Stable.refl, r3⟩
theorem it_r1 {tg : Expr} {p p1 : Pos} {n : Int} (h : wv X ro om e (.int n)) (hm : X.mg "range" = none) (hn : n < 2 ^ 62) (hn2 : -(2 ^ 62) ≤ n) (hg : Gl X "range") (hs : starEach [e] X.env = [(false, eval e X.env)] := by rfl) :
    Itd X ro om tg (.Call (.Name "range" p) [e] [] p1) ((List.range n.toNat).map fun (i : Nat) => .int (i : Int)) (fun _ => True) := fun R om0 H0 t σ H o => by
  refine pI_of (pi_range1 hg hm pA_pa hs) ?_
  refine pA_of (pa_cons pE_pe pa_nil hs) (v_run h t o fun v H1 o1 r => ?_)
  cases r
  refine ⟨n, rfl, hn2, hn, o1, fun om2 H2 S2 s2 _ => ⟨fun i d hi => ?_, ?_⟩⟩
  · rw [List.getElem?_map] at hi
    cases q : (List.range n.toNat)[i]? with
    | none => rw [q] at hi; cases hi
    | some j =>
      rw [q] at hi
      cases hi
      obtain ⟨hj, ej⟩ := List.getElem?_eq_some_iff.mp q
      rw [List.getElem_range] at ej
      subst ej
      rw [List.length_range] at hj
      refine ⟨hj, fun x' H3 ⟨e3, y3⟩ => ?_⟩
      subst e3 y3
      exact ⟨S2, Stable.refl, by rw [Int.zero_add]; rfl⟩
  · rw [List.length_map, List.length_range]
    exact Nat.le_refl _
theorem it_r3 {tg b c : Expr} {p p1 : Pos} {i j k : Int} {n : Nat} (h : wav X ro om [e, b, c] [.int i, .int j, .int k]) (hm : X.mg "range" = none) (hr : RgC i j k n) (hg : Gl X "range") (hs : starEach [e, b, c] X.env = (false, eval e X.env) :: starEach [b, c] X.env := by rfl) (hpl : (backTo p1 (starEach [b, c] X.env)).any (·.1) = false := by rfl) :
    Itd X ro om tg (.Call (.Name "range" p) [e, b, c] [] p1) ((List.range n).map fun (t : Nat) => .int (i + t * k)) (fun _ => True) := fun R om0 H0 t σ H o => by
  refine pI_of (pi_range3 hg hm pA_pa hs hpl) ?_
  refine pA_mono (h R (fun ds om' => ds = [.int i, .int j, .int k] ∧ om' = om) ⟨rfl, rfl⟩ om0 H0 t σ H o) fun vs H1 ⟨ds, om1, ⟨e1, e2⟩, o1, r⟩ => ?_
  subst e1 e2
  have ev : vs = [.int i, .int j, .int k] := RepL.ints (ns := [i, j, k]) r
  refine ⟨i, j, k, n, ev, hr, o1, fun om2 H2 S2 s2 _ => ⟨fun i' d hi => ?_, ?_⟩⟩
  · rw [List.getElem?_map] at hi
    cases q : (List.range n)[i']? with
    | none => rw [q] at hi; cases hi
    | some j' =>
      rw [q] at hi
      cases hi
      obtain ⟨hj, ej⟩ := List.getElem?_eq_some_iff.mp q
      rw [List.getElem_range] at ej
      subst ej
      rw [List.length_range] at hj
      refine ⟨hj, fun x' H3 ⟨e3, y3⟩ => ?_⟩
      subst e3 y3
      exact ⟨S2, Stable.refl, rfl⟩
  · rw [List.length_map, List.length_range]
    exact Nat.le_refl _
theorem it_S {tg : Expr} {s : Str} (h : wv X ro om e (.str s)) : Itd X ro om tg e (s.cps.toList.map fun c => .str ⟨#[c]⟩) (fun _ => True) := fun R om0 H0 t σ H o => by
  refine pI_of (pi_str pE_pe) (v_run h t o fun v H1 o1 r => ?_)
  cases r
  refine ⟨s, rfl, o1, fun om2 H2 S2 s2 _ => ⟨fun i d hi => ?_, ?_⟩⟩
  · rw [List.getElem?_map] at hi
    cases q : s.cps.toList[i]? with
    | none => rw [q] at hi; cases hi
    | some c =>
      rw [q] at hi
      cases hi
      have hl := (List.getElem?_eq_some_iff.mp q).1
      rw [Array.length_toList] at hl
      refine ⟨hl, fun x' H3 ⟨e3, c', h3, y3⟩ => ?_⟩
      subst e3 y3
      rw [← Array.getElem?_toList, q] at h3
      cases h3
      exact ⟨S2, Stable.refl, rfl⟩
  · rw [List.length_map]
    exact Nat.le_of_eq (by rw [Array.length_toList])
/-- a target: what it does to the slots -/
def Tg (X : Cx) (tg : Expr) (d : D) (U : Ro → Ro) (g : TG) : Prop := ∀ (om0 : Om) (H0 : Hp) (om1 : Om) (H1 : Hp) (σ : L2.St) (ro : Ro) (v : V) (Q : L2.St → Hp → Prop), Ok X.K om0 H0 om1 H1 σ ro → Rep X.K om1 H1 d v → (∀ σ', Ok X.K om0 H0 om1 H1 σ' (U ro) → Q σ' H1) → g v σ H1 Q
theorem tg_name (i : Nat) {tg : Expr} : Tg X tg d (fun ro => ro.set i (some d)) (gName i) := fun om0 H0 om1 H1 σ ro v Q o r q => q _ (o.set i r)
theorem tg_2 (i j : Nat) {tg : Expr} {d1 d2 : D} : Tg X tg (.tup [d1, d2]) (fun ro => (ro.set i (some d1)).set j (some d2)) (gTup X.K 2 (gCons (gName i) (gCons (gName j) gNil))) := fun om0 H0 om1 H1 σ ro v Q o r q => by
  obtain ⟨p, xs, rfl, h1, r1⟩ := tup_rep r
  exact ⟨p, xs, rfl, h1, by rw [← r1.length]; rfl, g2_ok i j rfl o r1 q⟩
theorem tg_3 (i j k : Nat) {tg : Expr} {d1 d2 d3 : D} : Tg X tg (.tup [d1, d2, d3]) (fun ro => ((ro.set i (some d1)).set j (some d2)).set k (some d3)) (gTup X.K 3 (gCons (gName i) (gCons (gName j) (gCons (gName k) gNil)))) := fun om0 H0 om1 H1 σ ro v Q o r q => by
  obtain ⟨p, xs, rfl, h1, r1⟩ := tup_rep r
  exact ⟨p, xs, rfl, h1, by rw [← r1.length]; rfl, g3_ok i j k rfl o r1 q⟩
theorem w_for {tg iter : Expr} {body : List Stmt} {ds : List D} {Pm : Om → Prop} {g : TG} {U : D → Ro → Ro} (hi : Itd X ro om tg iter ds Pm) (I : Nat → Ro → Om → Prop) (h0 : I 0 ro om) (hP : ∀ i ro' om', I i ro' om' → Pm om')
    (hT : ∀ d, d ∈ ds → Tg X tg d (U d) g) (hs : ∀ (i : Nat) (d : D) (ro' : Ro) (om' : Om), ds[i]? = some d → I i ro' om' → ws X { F with nx := I (i + 1), ct := I (i + 1), bk := F.nx } (U d ro') om' body)
    (hd : ∀ ro' om', I ds.length ro' om' → F.nx ro' om') (hg : PG X tg g) (hp : PassesOwn (model X.prog X.w) X.A X.env X.xe) (hc : X.calm = true) (hfo : ∀ x, foldedSetIterable iter X.env x = pure x := by intro _; rfl) : w1 X F ro om (.For tg iter body [] pos) := .mk fun om0 H0 t σ H o => by
  refine pS_of (ps_for hp hc pI_pi hg pSs_ps hfo) ?_
  refine fun pins s I' => wpAny_mono (hi F.ex om0 H0 t σ H o pins s I') (fun v s1 h1 => thn h1 fun itv s2 ⟨it, fp, tn, J, H2, e2, I2, T2, st2, f2, o2, j2⟩ => ?_) (fun _ _ x => x)
  refine ⟨it, fp, tn, J, H2, e2, I2, T2, st2, f2, fun i m σ' H' => m = ds.length - i ∧ i ≤ ds.length ∧ ∃ ro' om', I i ro' om' ∧ Ok X.K om0 H0 om' H' σ' ro' ∧ Stable om H2 om' H', ⟨ds.length, by simp, Nat.zero_le _, ro, om, h0, o2, Stable.refl⟩, ?_⟩
  rintro i m σ3 H3 ⟨rfl, hle, ro3, om3, i3, o3, s3⟩
  obtain ⟨jg, js⟩ := j2 om3 H3 o3.store s3 (hP _ _ _ i3)
  by_cases hlt : i < ds.length
  · refine .inr ⟨(jg i ds[i] (List.getElem?_eq_getElem hlt)).1, fun σ' H' => ∃ ro' om', I (i + 1) ro' om' ∧ Ok X.K om0 H0 om' H' σ' ro' ∧ Stable om H2 om' H', fun σ' H' ⟨ro', om', q1, q2, q3⟩ => ⟨ds.length - (i + 1), by omega, rfl, hlt, ro', om', q1, q2, q3⟩, fun x' H4 y4 => ?_⟩
    obtain ⟨S4, s4, r4⟩ := (jg i ds[i] (List.getElem?_eq_getElem hlt)).2 x' H4 y4
    have o4 : Ok X.K om0 H0 om3 H4 σ3 ro3 := o3.to S4 s4
    refine hT ds[i] (List.getElem_mem hlt) om0 H0 om3 H4 σ3 ro3 x' _ o4 r4 fun σ5 o5 => ?_
    have hb := hs i ds[i] ro3 om3 (List.getElem?_eq_getElem hlt) i3 om3 H4 (t.at o5.stab) σ5 H4 ⟨o5.store, Stable.refl, o5.slot, o5.len⟩
    refine pSs_mono hb ⟨fun σ6 H6 ⟨ro6, om6, q6, o6⟩ => ⟨ro6, om6, q6, ⟨o6.store, o5.stab.trans o6.stab, o6.slot, o6.len⟩, (s3.trans s4).trans o6.stab⟩, fun v6 H6 ⟨d6, om6, q6, S6, s6, r6⟩ => ⟨d6, om6, q6, S6, o5.stab.trans s6, r6⟩,
      fun σ6 H6 ⟨ro6, om6, q6, o6⟩ => ⟨ro6, om6, q6, ⟨o6.store, o5.stab.trans o6.stab, o6.slot, o6.len⟩⟩, fun σ6 H6 ⟨ro6, om6, q6, o6⟩ => ⟨ro6, om6, q6, ⟨o6.store, o5.stab.trans o6.stab, o6.slot, o6.len⟩, (s3.trans s4).trans o6.stab⟩⟩
  · have ei : i = ds.length := by omega
    subst ei
    exact .inl ⟨js, ro3, om3, hd _ _ i3, o3⟩
end
end Mo

set_option Elab.async false
set_option linter.all false
set_option maxRecDepth 100000
set_option maxHeartbeats 4000000
set_option autoImplicit false
/-! Names by their places. -/
namespace Mo
open PySem PySem.Spec PyProof.Rows L2
/-- the name x stands in the i-th slot -/
structure NameAt (X : Cx) (i : Nat) (x : Str) : Prop where
  at_ : X.N[i]? = some x
  vis : Vis X.env.scope x
  db : (x == ("__debug__" : Str)) = false
  cd : (x == ("__classdict__" : Str)) = false
theorem NameAt.v {X : Cx} {i : Nat} {x : Str} {ro : Ro} {om : Om} {pos : Pos} {d : D} (n : NameAt X i x) (h : ro[i]? = some (some d)) : wv X ro om (.Name x pos) d := v_name i n.at_ h n.vis n.db n.cd
theorem NameAt.w {X : Cx} {i : Nat} {x : Str} {ro : Ro} {om : Om} {pos : Pos} {d : D} {R : RX} {Q : DK} (n : NameAt X i x) (h : ro[i]? = some (some d)) (q : Q d om) : we X R ro om (.Name x pos) Q := n.v h R Q q
/-- .. and may be stored -/
structure Lo (X : Cx) (i : Nat) (x : Str) : Prop where
  at_ : X.N[i]? = some x
  loc : Loc X.env.scope x
  fn : X.fn x = true
def NamesFrom (X : Cx) : Nat → List Str → Prop
  | _, [] => True
  | i, x :: r => (NameAt X i x ∧ Lo X i x) ∧ NamesFrom X (i + 1) r
def visB (sc : Scope) (x : Str) : Bool := (sc.names.lookup x == some .local || sc.names.lookup x == some .cell || sc.names.lookup x == some .free) && !(x == ("__debug__" : Str)) && !(x == ("__classdict__" : Str))
def locB (sc : Scope) (x : Str) : Bool := (sc.names.lookup x == some .local || sc.names.lookup x == some .cell) && !(x == ("__debug__" : Str)) && !(x == ("__classdict__" : Str))
theorem nameAt_of {X : Cx} {i : Nat} {x : Str} (h1 : X.N[i]? = some x) (h : visB X.env.scope x = true) : NameAt X i x := by
  unfold visB at h
  simp only [Bool.and_eq_true, Bool.or_eq_true, Bool.not_eq_true', beq_iff_eq] at h
  obtain ⟨⟨hv, h2⟩, h3⟩ := h
  refine ⟨h1, ?_, h2, h3⟩
  rcases hv with (hv | hv) | hv
  · exact .inl hv
  · exact .inr (.inl hv)
  · exact .inr (.inr hv)
theorem loc_of {X : Cx} {i : Nat} {x : Str} (h1 : X.N[i]? = some x) (h : locB X.env.scope x = true) (hf : X.fn = fun _ => true) : NameAt X i x ∧ Lo X i x := by
  unfold locB at h
  simp only [Bool.and_eq_true, Bool.or_eq_true, Bool.not_eq_true', beq_iff_eq] at h
  obtain ⟨⟨hv, h2⟩, h3⟩ := h
  exact ⟨⟨h1, hv.elim .inl fun z => .inr (.inl z), h2, h3⟩, h1, hv, by rw [hf]⟩
theorem names_from {X : Cx} (hf : X.fn = fun _ => true) : ∀ (r : List Str) (i : Nat), (∀ (j : Nat) (x : Str), r[j]? = some x → X.N[i + j]? = some x) → r.all (locB X.env.scope) = true → NamesFrom X i r
  | [], _, _, _ => trivial
  | x :: r, i, h, v => by
    simp only [List.all_cons, Bool.and_eq_true] at v
    exact ⟨loc_of (h 0 x rfl) v.1 hf, names_from hf r (i + 1) (fun j y hy => by rw [Nat.add_right_comm i 1 j]; exact h (j + 1) y (by simpa using hy)) v.2⟩
theorem NameAt.blk {X : Cx} {i : Nat} {x : Str} {s : Shared} {H : Hp} {sc : Scope} {ce : Env} {fp : List Addr} (n : X.N[i]? = some x) (v : visB ce.scope x = true) : NameAt (X.blk s H sc ce fp) i x := nameAt_of n v
theorem NameAt.tr {X : Cx} {i : Nat} {x : Str} {pn : List (Addr × Obj)} {xe : Value → Shared → Prop} (n : NameAt X i x) : NameAt (X.tr pn xe) i x := ⟨n.at_, n.vis, n.db, n.cd⟩
theorem NameAt.suite {X : Cx} {i : Nat} {x : Str} {a : Addr} {pn : List (Addr × Obj)} (n : NameAt X i x) : NameAt (X.suite a pn) i x := ⟨n.at_, n.vis, n.db, n.cd⟩
theorem Lo.tr {X : Cx} {i : Nat} {x : Str} {pn : List (Addr × Obj)} {xe : Value → Shared → Prop} (n : Lo X i x) : Lo (X.tr pn xe) i x := ⟨n.at_, n.loc, n.fn⟩
theorem Lo.suite {X : Cx} {i : Nat} {x : Str} {a : Addr} {pn : List (Addr × Obj)} (n : Lo X i x) : Lo (X.suite a pn) i x := ⟨n.at_, n.loc, n.fn⟩
/-- name = e -/
theorem Lo.asg {X : Cx} {i : Nat} {xn : Str} {pos' pos : Pos} {ro : Ro} {om : Om} {F : De} {e : Expr} (l : Lo X i xn) (nd : X.N.Nodup) (h : we X F.ex ro om e fun d om' => F.nx (ro.set i (some d)) om') (hs : swapsWith e (some (.Name xn pos')) pos.line X.env = pure false := by rfl) :
    w1 X F ro om (.Assign [.Name xn pos'] e pos) := s_asg i l.at_ l.loc h nd hs (.inl l.fn)
/-- .. its value a tree -/
theorem Lo.set {X : Cx} {i : Nat} {xn : Str} {pos' pos : Pos} {ro : Ro} {om : Om} {F : De} {e : Expr} {d : D} {rest : List Stmt} (l : Lo X i xn) (nd : X.N.Nodup) (h : wv X ro om e d) (k : ws X F (ro.set i (some d)) om rest) (hs : swapsWith e (some (.Name xn pos')) pos.line X.env = pure false := by rfl) :
    ws X F ro om (.Assign [.Name xn pos'] e pos :: rest) := ws_cons (l.asg nd (h _ _ k) hs)
/-- .. a new list -/
theorem Lo.new {X : Cx} {i : Nat} {xn : Str} {pos' pos : Pos} {ro : Ro} {om : Om} {F : De} {e : Expr} {ds : List D} {rest : List Stmt} (l : Lo X i xn) (nd : X.N.Nodup) (h : wn X ro om e ds) (k : ∀ p, om p = none → ws X F (ro.set i (some (.obj p))) (ups om p (.lst ds)) rest) (hs : swapsWith e (some (.Name xn pos')) pos.line X.env = pure false := by rfl) :
    ws X F ro om (.Assign [.Name xn pos'] e pos :: rest) := ws_cons (l.asg nd (h _ _ k) hs)
/-- if c: name = e, the name's value told -/
theorem Lo.ifI {X : Cx} {i : Nat} {xn : Str} {pos' pos p2 : Pos} {ro : Ro} {om : Om} {F : De} {c e : Expr} {k : Bool} {a b : Int} {rest : List Stmt} (l : Lo X i xn) (nd : X.N.Nodup) (h : wtv X ro om c k) (h1 : k = true → wv X ro om e (.int a)) (h0 : ro[i]? = some (some (.int b)))
    (nx : ws X F (ro.set i (some (.int (if k = true then a else b)))) om rest) (hs : swapsWith e (some (.Name xn pos')) p2.line X.env = pure false := by rfl) : ws X F ro om (.If c [.Assign [.Name xn pos'] e p2] [] pos :: rest) := by
  refine ws_cons (s_if h (fun hk => ws_one (l.asg nd (h1 hk _ _ ?_) hs)) (fun hk => ws_nil ?_))
  · subst hk
    exact nx
  · subst hk
    have e : ro.set i (some (.int b)) = ro := by
      obtain ⟨hl, q⟩ := List.getElem?_eq_some_iff.mp h0
      rw [← q, List.set_getElem_self]
    have nx' : ws X F (ro.set i (some (.int b))) om rest := nx
    rw [e] at nx'
    exact nx'
/-- a global name of the text, or a built-in's -/
def gloB (sc : Scope) (x : Str) : Bool := sc.names.lookup x == some .globalImplicit
theorem gl_of {X : Cx} {sc : Scope} {x : Str} (e : X.env.scope = sc) (h : gloB sc x = true) : Gl X x := by
  unfold gloB at h
  unfold Gl
  show X.env.scope.names.lookup x = _
  rw [e]
  exact beq_iff_eq.mp h
/-- what a body's walk leans on -/
structure Bd (X : Cx) (N : List Str) (sc : Scope) (k : Nat) : Prop where
  nN : X.N = N
  nd : X.N.Nodup
  sc : X.env.scope = sc
  calm : X.calm = true
  fn : X.fn = fun _ => true
  room : Room k X.A
  un : X.A.units + 150 < cLine
  pass : PassesOwn (model X.prog X.w) X.A X.env X.xe
  stk : X.stack = X.env :: X.outer
  frm : X.env.frame = some X.env.locals
  exs : X.ex = []
/-- a def of the text as it stands behind the top -/
abbrev Df (K : PySem.W.Frag) (d : He.DefD) (f : Addr) (fd : FuncData) : Prop := FunD K d.name d.qual d.params d.body d.scope (d.dvs K) (d.kws K) f fd
theorem def_okD {P : Program} {w : World} {K : PySem.W.Frag} {mg : Str → Option Value} {base : Heap} {dd : He.DefD} {f : Addr} {fd : FuncData} {N ps : List Str} {k n : Nat} {G : Fs} (Fu : Df K dd f fd) (S : FnScope N ps dd.scope) (hn : ps.length = n)
    (h : ∀ (cdv : Value) (A : Around) (outer : List Env) (s : Shared) (H : Hp) (E : XK), Room k (A.deeper (envOfC dd.qual dd.scope s.heap.objs.size f cdv)) → ∀ (om : Om) (ds : List D) (Q : DK) (Rr : Value → List (Str × D) → Om → Prop), ds.length = n → G ds om Q Rr →
      ws (cxOf (L2.CX P w) P w K mg base N dd.qual dd.scope f cdv A outer s H E) (deOf Q Rr) (startD N ds) om dd.body) : FnOk P w K mg base (L2.CX P w) (k + 1) f fd ps (spD K n G) := by
  refine FunD.ok Fu S (fun vs H Q E ⟨om, ds, _, _, _, r, hl, _⟩ => by rw [← r.length, hl, hn]) (fun cdv A outer s H vs Q E hr hsp => ?_)
  obtain ⟨om, ds, QD, RD, St, r, hl, g, hq, he⟩ := hsp
  refine ⟨_, pSs_ps, ?_⟩
  have t0 : Takes (cxOf (L2.CX P w) P w K mg base N dd.qual dd.scope f cdv A outer s H E) (fun cls d _ H' => E cls d H') := takes_of rfl rfl rfl rfl
  have t : Tk (cxOf (L2.CX P w) P w K mg base N dd.qual dd.scope f cdv A outer s H E) om H (deOf QD RD).ex := Takes.imp t0 fun c d σ H' ⟨fs, ro, om', q, o, x⟩ => he c fs om' d H' q o.store o.stab x
  refine pSs_mono (h cdv A outer s H E hr om ds QD RD hl g om H t _ H (start_ok St r)) ⟨fun σ H' ⟨ro, om', q, o⟩ => hq .non om' .non H' q o.store o.stab rfl, fun v H' ⟨d, om', q, S', s', r'⟩ => hq d om' v H' q S' s' r', fun σ H' ⟨ro, om', q, o⟩ => q.elim, fun σ H' ⟨ro, om', q, o⟩ => q.elim⟩
/-- THE RULE for a def of the text: Nl the names of its own (a comprehension's names stand behind them in N) -/
theorem def_ok' {P : Program} {w : World} {K : PySem.W.Frag} {mg : Str → Option Value} {base : Heap} {dd : He.DefD} {f : Addr} {fd : FuncData} {N ps : List Str} {k n : Nat} {G : Fs} (Fu : Df K dd f fd) (S : FnScope N ps dd.scope) (hn : ps.length = n)
    (Nl : List Str) (hN : N.take Nl.length = Nl) (hv : Nl.all (locB dd.scope) = true)
    (h : ∀ (X : Cx), X.prog = P → X.w = w → X.K = K → X.mg = mg → X.base = base → Bd X N dd.scope k → NamesFrom X 0 Nl →
      ∀ (om : Om) (ds : List D) (Q : DK) (Rr : Value → List (Str × D) → Om → Prop), ds.length = n → G ds om Q Rr → ws X (deOf Q Rr) (startD N ds) om dd.body) : FnOk P w K mg base (L2.CX P w) (k + 1) f fd ps (spD K n G) :=
  def_okD Fu S hn fun cdv A outer s H E hr om ds Q Rr hl g => by
    refine h (cxOf (L2.CX P w) P w K mg base N dd.qual dd.scope f cdv A outer s H E) rfl rfl rfl rfl rfl ⟨rfl, S.nd, rfl, rfl, rfl, hr, ?_, passes_of rfl, rfl, rfl, rfl⟩ (names_from rfl Nl 0 (fun j x hx => ?_) hv) om ds Q Rr hl g
    · have := hr.un
      show (A.deeper _).units + 150 < cLine
      omega
    · rw [Nat.zero_add]
      show N[j]? = some x
      rw [← hN, List.getElem?_take] at hx
      split at hx
      · exact hx
      · cases hx
/-- a text's def, found by its name -/
theorem dk_of {P : Program} {w : World} {K : PySem.W.Frag} {mg : Str → Option Value} {base : Heap} {xn : Str} {k n : Nat} {G : Fs} {f : Addr} {fd : FuncData} {ps : List Str} (h : FnOk P w K mg base (L2.CX P w) k f fd ps (spD K n G)) (hm : mg xn = some (.ref f)) (hk : PySem.W.keepIn K (.ref f) = true) (hb : Binds K fd ps []) :
    DefOk P w K mg base xn k n G := ⟨f, fd, ps, h, hm, hk, hb⟩
/-- the built-ins' names are the built-ins' -/
structure Blt (mg : Str → Option Value) : Prop where
  len : mg "len" = none
  list : mg "list" = none
  int : mg "int" = none
  str : mg "str" = none
  bool : mg "bool" = none
  tuple : mg "tuple" = none
  max : mg "max" = none
  min : mg "min" = none
  any : mg "any" = none
  all : mg "all" = none
  sum : mg "sum" = none
  sorted : mg "sorted" = none
  range : mg "range" = none
  enumerate : mg "enumerate" = none
  zip : mg "zip" = none
  reversed : mg "reversed" = none
  isinstance : mg "isinstance" = none
  valueError : mg "ValueError" = none
section
variable {X : Cx} (B : Blt X.mg)
theorem Blt.bLen (B : Blt X.mg) : Bi X "len" (.builtin "len") := .fn _ B.len PySem.boot_len (by decide) (by decide)
theorem Blt.bList (B : Blt X.mg) : Bi X "list" (.type "list") := .ty _ B.list PyProof.Rows.boot_list (by decide) (by decide)
theorem Blt.bInt (B : Blt X.mg) : Bi X "int" (.type "int") := .ty _ B.int PyProof.Rows.boot_int (by decide) (by decide)
theorem Blt.bStr (B : Blt X.mg) : Bi X "str" (.type "str") := .ty _ B.str PyProof.Rows.boot_str (by decide) (by decide)
theorem Blt.bMax (B : Blt X.mg) : Bi X "max" (.builtin "max") := .fn _ B.max PyProof.Rows.boot_max (by decide) (by decide)
theorem Blt.bMin (B : Blt X.mg) : Bi X "min" (.builtin "min") := .fn _ B.min PyProof.Rows.boot_min (by decide) (by decide)
theorem Blt.bAny (B : Blt X.mg) : Bi X "any" (.builtin "any") := .fn _ B.any PyProof.Rows.boot_any (by decide) (by decide)
theorem Blt.bAll (B : Blt X.mg) : Bi X "all" (.builtin "all") := .fn _ B.all PyProof.Rows.boot_all (by decide) (by decide)
theorem Blt.bSum (B : Blt X.mg) : Bi X "sum" (.builtin "sum") := .fn _ B.sum PyProof.Rows.boot_sum (by decide) (by decide)
theorem Blt.bSorted (B : Blt X.mg) : Bi X "sorted" (.builtin "sorted") := .fn _ B.sorted PyProof.Rows.boot_sorted (by decide) (by decide)
theorem Blt.bIsi (B : Blt X.mg) : Bi X "isinstance" (.builtin "isinstance") := .fn _ B.isinstance PyProof.Rows.boot_isinstance (by decide) (by decide)
theorem Blt.kBool (B : Blt X.mg) : Kl X "bool" (.type "bool") := .ty _ B.bool PyProof.Rows.boot_bool (by decide) (by decide)
theorem Blt.kInt (B : Blt X.mg) : Kl X "int" (.type "int") := .ty _ B.int PyProof.Rows.boot_int (by decide) (by decide)
theorem Blt.kStr (B : Blt X.mg) : Kl X "str" (.type "str") := .ty _ B.str PyProof.Rows.boot_str (by decide) (by decide)
theorem Blt.kList (B : Blt X.mg) : Kl X "list" (.type "list") := .ty _ B.list PyProof.Rows.boot_list (by decide) (by decide)
theorem Blt.kTuple (B : Blt X.mg) : Kl X "tuple" (.type "tuple") := .ty _ B.tuple PyProof.Rows.boot_tuple (by decide) (by decide)
end
/-- return e -/
theorem ret_v {X : Cx} {ro : Ro} {om : Om} {F : De} {e : Expr} {d : D} {pos : Pos} {rest : List Stmt} (h : wv X ro om e d) (q : F.rt d om) : ws X F ro om (.Return (some e) pos :: rest) := ws_cons (s_ret (h _ _ q))
/-- range(0, j, 2), few turns -/
theorem rg2 {j : Int} (hj : 0 ≤ j) (hj2 : j ≤ 100000) : RgC 0 j 2 ((j + 1) / 2).toNat := by
  refine ⟨by decide, by decide, ?_, ?_⟩
  · unfold Builtin.Range.small Builtin.Range.rangeSize
    simp only [Builtin.Range.rangeFitsLong, Bool.and_eq_true, Bool.or_eq_true, decide_eq_true_eq, beq_iff_eq, show (2 : Int) > 0 by decide, if_true]
    split <;> omega
  · unfold Builtin.Range.rangeSize
    rw [if_pos (by decide)]
    split <;> omega
/-- range(0, j, 3), few turns -/
theorem rg3 {j : Int} (hj : 0 ≤ j) (hj2 : j ≤ 100000) : RgC 0 j 3 ((j + 2) / 3).toNat := by
  refine ⟨by decide, by decide, ?_, ?_⟩
  · unfold Builtin.Range.small Builtin.Range.rangeSize
    simp only [Builtin.Range.rangeFitsLong, Bool.and_eq_true, Bool.or_eq_true, decide_eq_true_eq, beq_iff_eq, show (3 : Int) > 0 by decide, if_true]
    split <;> omega
  · unfold Builtin.Range.rangeSize
    rw [if_pos (by decide)]
    split <;> omega
/-- the law's own call -/
theorem law_sp {K : PySem.W.Frag} {G : Fs} {H : Hp} {a : Addr} {ns : List Int} {Q : VK} {E : XK} (hS : SqL K H a (ns.map V.int)) (g : G [.scr ns] (fun _ => none) (fun d _ => d = .bl true) (fun _ _ _ => False)) (hQ : ∀ H', Q (.bl true) H') : spD K 1 G [.ref a] H Q E := by
  refine ⟨fun _ => none, [.scr ns], _, _, fun b o (e : none = some o) => (by cases e), ⟨_, _, rfl, ⟨a, rfl, ?_⟩, rfl⟩, rfl, g, fun d om' v H' e S s r => ?_, fun c fs om' dd H' (z : False) => False.elim z⟩
  · rcases hS with h | h
    · exact .inl ⟨rfl, h⟩
    · exact .inr h
  · subst e
    cases r
    exact hQ H'
theorem cx_no {P : Program} {w : World} {H : Hp} {s : Shared} {e : Value} {s' : Shared} (h : L2.CX P w [] H s (fun _ _ _ => False) e s') : False := by
  obtain ⟨_, _, _, _, _, _, _, _, _, _, _, _, z⟩ := h
  exact z.elim
end Mo

set_option Elab.async false
set_option linter.all false
set_option maxRecDepth 100000
set_option maxHeartbeats 4000000
set_option autoImplicit false
/-! The head: facts of the written part as tests, each a function of it. -/
namespace Mo
open PySem PySem.Spec PyProof.Rows L2
abbrev Fk := PySem.W.Frag → Bool
abbrev AlM : Type := Bool × List He.FnW
def obsM (fs : List Fk) (fn : List He.DefD) (K : PySem.W.Frag) : AlM :=
  (fs.all (fun f => f K) && fn.all (He.DefD.ok K), fn.map fun d => He.fnW K d.at_)
def valM (fn : List He.DefD) : AlM := (true, fn.map He.DefD.val)
def SaysM (fs : List Fk) (fn : List He.DefD) (K : PySem.W.Frag) : Prop := obsM fs fn K = valM fn
def obsMG (n : Nat) (fs : List Fk) (fn : List He.DefD) (g : Addr → Option Obj) : AlM := obsM fs fn (He.frG g (He.asD g n))
def hookM (n : Nat) (fs : List Fk) (fn : List He.DefD) : PySem.W.Hook where
  α := AlM
  obs := fun s => obsMG n fs fn s.heap.get?
  val := fun _ => valM fn
  says := fun _ h => ∃ K : PySem.W.Frag, K.In h ∧ SaysM fs fn K
  of := fun _ _ e => ⟨_, He.frG_in, e⟩
  keeps := fun _ _ _ z k => match z with
    | ⟨K, hK, c⟩ => ⟨K, PySem.W.Frag.In.keeps hK k, c⟩
theorem obsMG_eq {n : Nat} {fs : List Fk} {fn : List He.DefD} {g : Addr → Option Obj} {s : Shared} (h : ∀ a, g a = s.heap.get? a) : obsMG n fs fn g = (hookM n fs fn).obs s := by
  rw [show g = s.heap.get? from funext h]
  rfl
theorem SaysM.all {fs : List Fk} {fn : List He.DefD} {K : PySem.W.Frag} (c : SaysM fs fn K) : fs.all (fun f => f K) = true :=
  (Bool.and_eq_true_iff.mp (congrArg Prod.fst c)).1
theorem SaysM.fact {fs : List Fk} {fn : List He.DefD} {K : PySem.W.Frag} (c : SaysM fs fn K) (i : Nat) {f : Fk} (h : fs[i]? = some f := by rfl) : f K = true :=
  List.all_eq_true.mp c.all f (List.mem_of_getElem? h)
theorem SaysM.def_ {fs : List Fk} {fn : List He.DefD} {K : PySem.W.Frag} (c : SaysM fs fn K) (i : Nat) {d : He.DefD} (h : fn[i]? = some d := by rfl) : ∃ fd, Df K d (He.fAd K d.at_) fd := by
  have c2 := (Bool.and_eq_true_iff.mp (show (_ && _) = true from congrArg Prod.fst c)).2
  have e : fn.map (fun d => He.fnW K d.at_) = fn.map He.DefD.val := congrArg Prod.snd c
  have e2 := congrArg (fun l : List He.FnW => l[i]?) e
  simp only [List.getElem?_map, h, Option.map_some, Option.some.injEq] at e2
  exact He.DefD.funD e2 (List.all_eq_true.mp c2 d (List.mem_of_getElem? h))
/-! ### the facts -/
def fGlo (x : Str) : Fk := fun K => He.eqO (PySem.W.nsIn K mainGlobals x) (some (some (.ref (He.ga K x))))
def fFree (x : Str) : Fk := fun K => He.eqO (PySem.W.nsIn K mainGlobals x) (some none)
def fCls (x : Str) : Fk := fun K => (He.Fa.cls x).ok K
def fNoat (x f : Str) : Fk := fun K => (He.Fa.noat x f).ok K
def fMeth (x m : Str) : Fk := fun K => (He.Fa.meth x m).ok K
def fMkr (x : Str) : Fk := fun K => (He.Fa.mkr x).ok K
def fExc (x : Str) : Fk := fun K => (He.Fa.exc x).ok K
def fInt (x : Str) (i : Int) : Fk := fun K => (He.Fa.int x i).ok K
def fStr (x z : Str) : Fk := fun K => (He.Fa.str x z).ok K
def fFree18 : Fk := fun K => (["len", "list", "int", "str", "bool", "tuple", "max", "min", "any", "all", "sum", "sorted", "range", "enumerate", "zip", "reversed", "isinstance", "ValueError"] : List Str).all fun x => fFree x K
section
variable {K : PySem.W.Frag} {h : Heap} {mg : Str → Option Value}
theorem fGlo_ok (X : K.In h) (G : h.Ns mainGlobals mg) {x : Str} (c : fGlo x K = true) : mg x = some (.ref (He.ga K x)) := PySem.W.mg_of X G (He.eqO_ok c)
theorem fFree_ok (X : K.In h) (G : h.Ns mainGlobals mg) {x : Str} (c : fFree x K = true) : mg x = none := PySem.W.mg_none_of X G (He.eqO_ok c)
theorem fBlt_ok (X : K.In h) (G : h.Ns mainGlobals mg) (c : fFree18 K = true) : Blt mg := by
  have f : ∀ x : Str, x ∈ (["len", "list", "int", "str", "bool", "tuple", "max", "min", "any", "all", "sum", "sorted", "range", "enumerate", "zip", "reversed", "isinstance", "ValueError"] : List Str) → mg x = none := fun x m => fFree_ok X G (List.all_eq_true.mp c x m)
  constructor <;> exact f _ (by decide)
end
/-- what leaves a def, said more widely -/
theorem cx_imp {P : Program} {w : World} {K : PySem.W.Frag} {mg : Str → Option Value} {base : Heap} {CX CX' : CXT} {k : Nat} {f : Addr} {fd : FuncData} {ps : List Str} {sp : Sp} (h : ∀ outer H s E e s', CX outer H s E e s' → CX' outer H s E e s') (F : FnOk P w K mg base CX k f fd ps sp) : FnOk P w K mg base CX' k f fd ps sp :=
  ⟨F.len, fun A outer s H args us vs Q E hr he hb hv hs => codeAny_mono (F.run A outer s H args us vs Q E hr he hb hv hs) fun r s' q => by
    cases r with
    | ok fl => cases fl <;> exact q
    | error e => exact h _ _ _ _ _ _ q⟩
/-- the end: from the head's facts to the row -/
theorem walk_law {l : PySem.W.OpenLaw} {n k : Nat} {q : Program} {loose : List Str} {XP : (Str → Option Value) → Heap → Prop} {fs : List Fk} {fn : List He.DefD} {d : DefRec} {x : Str} {G : Fs} (hn : l.most = some n) (hn2 : n ≤ sizeLine) (hdf : d.params.defaults = []) (hr : Room k callerA) (hd : d.name = ("law" : Str))
    (hG : ∀ ns : List Int, ns.length ≤ n → G [.scr ns] (fun _ => none) (fun d _ => d = .bl true) (fun _ _ _ => False))
    (F : ∀ (w : World) (K : PySem.W.Frag) (mg : Str → Option Value) (fa : Addr) (h : Heap), K.In h → h.Ns mainGlobals mg → mg "law" = some (.ref fa) → SaysM fs fn K → ∃ fd : FuncData, (∀ (s : Shared) (u : Value), BindsTo s fd ⟨[u], []⟩ [(x, u)]) ∧
      ∀ base : Heap, K.In base → base.Ns mainGlobals mg → FnOk l.prog w K mg base (L2.CX l.prog w) k fa fd [x] (spD K 1 G)) :
    PySem.W.WalkO q loose XP (fun w h => ∃ K : PySem.W.Frag, K.In h ∧ SaysM fs fn K) l.row.toRowW d [] (fun f vs => PySem.call f vs) := by
  refine L2.walk_ofE (l := l) (n := n) (k := k) (x := x) (CX := fun outer H s E e s' => ∃ w, L2.CX l.prog w outer H s E e s') hn hn2 hdf hr ?_ (fun _ _ _ _ z => ?_)
  · rintro w mg fa h ⟨K, KX, c⟩ G' hmg
    rw [hd] at hmg
    obtain ⟨fd, hb, hF⟩ := F w K mg fa h KX G' hmg c
    exact ⟨K, fd, spD K 1 G, KX, hb, fun H a ns hl _ hS => law_sp hS (hG ns hl) fun _ => rfl, fun base k1 k2 => cx_imp (fun outer H s E e s' z => ⟨w, z⟩) (hF base k1 k2)⟩
  · obtain ⟨w, z⟩ := z
    exact cx_no z
end Mo

set_option Elab.async false
set_option linter.all false
set_option maxRecDepth 100000
set_option maxHeartbeats 4000000
set_option autoImplicit false
/-! Further rules: new lists handed on, method calls as statements, joins of ways. -/
namespace Mo
open PySem PySem.Spec PyProof.Rows L2
section
variable {X : Cx} {R : RX} {ro : Ro} {om : Om} {e a b c : Expr} {es : List Expr} {st : Stmt} {sts rest : List Stmt} {F : De} {pos : Pos} {x y z d : D}
/-- a def that hands back a new list -/
structure Pn (G : Fs) (om : Om) (ds zs : List D) : Prop where
  go : ∀ (Q : DK) (Rr : Value → List (Str × D) → Om → Prop), (∀ p, om p = none → Q (.obj p) (ups om p (.lst zs))) → G ds om Q Rr
instance {G : Fs} {om : Om} {ds zs : List D} : CoeFun (Pn G om ds zs) (fun _ => ∀ (Q : DK) (Rr : Value → List (Str × D) → Om → Prop), (∀ p, om p = none → Q (.obj p) (ups om p (.lst zs))) → G ds om Q Rr) := ⟨Pn.go⟩
theorem n_call {xn : Str} {k n : Nat} {G : Fs} {p : Pos} {ds zs : List D} (Dk : DefOk X.prog X.w X.K X.mg X.base xn k n G) (hr : Room k X.A) (h : wav X ro om (e :: es) ds) (hl : ds.length = n) (g : Pn G om ds zs)
    (hg : Gl X xn) (hdb : (xn == ("__debug__" : Str)) = false := by decide) (he : starEach (e :: es) X.env = (false, eval e X.env) :: starEach es X.env := by rfl) (hpl : (backTo pos (starEach es X.env)).any (·.1) = false := by rfl) :
    wn X ro om (.Call (.Name xn p) (e :: es) [] pos) zs := .mk fun R Q q => e_call Dk hr (h R _ ⟨hl, g _ _ q⟩) hg hdb he hpl
theorem ret_n {ds : List D} (h : wn X ro om e ds) (q : ∀ p, om p = none → F.rt (.obj p) (ups om p (.lst ds))) : ws X F ro om (.Return (some e) pos :: rest) := ws_cons (s_ret (h _ _ q))
theorem ret_e (h : we X F.ex ro om e F.rt) : ws X F ro om (.Return (some e) pos :: rest) := ws_cons (s_ret h)
theorem st_expr (h : we X F.ex ro om e fun _ om' => ws X F ro om' rest) (hs : swapsWith e none pos.line X.env = pure false := by rfl) : ws X F ro om (.Expr e pos :: rest) := ws_cons (s_expr h hs)
theorem st_append {o : Expr} {apos cpos : Pos} {p : Addr} {ds : List D} (ho : wv X ro om o (.obj p)) (he : wv X ro om e d) (hp : om p = some (.lst ds)) (hz : ds.length < sizeLine) (k : ws X F ro (ups om p (.lst (ds ++ [d]))) rest)
    (hbase : attributeBase o "append" X.env (eval o X.env) = eval o X.env := by rfl)
    (hfew : ((backTo cpos (starEach [e] X.env)).all (fun x => !x.1) && (backToKw cpos (keywordEach [] X.env)).all (fun x => x.1.isSome) && decide ([e].length + ([] : List Keyword).length + (if ([] : List Keyword).isEmpty then 0 else 1) < 30)) = true := by rfl)
    (hline : (apos.endLine == cpos.line) = true := by rfl) (hs : starEach [e] X.env = (false, eval e X.env) :: starEach [] X.env := by rfl) (hplain : (backTo cpos (starEach [] X.env)).any (·.1) = false := by rfl)
    (hsw : swapsWith (.Call (.Attribute o "append" apos) [e] [] cpos) none pos.line X.env = pure false := by rfl) : ws X F ro om (.Expr (.Call (.Attribute o "append" apos) [e] [] cpos) pos :: rest) :=
  st_expr (e_bm PySem.F.plainAttrs_list PySem.F.slot_list_append PySem.F.type_list_append (ho _ _ ⟨.lst (.ob hp), a_cons (he _ _ (a_nil (m_append hp hz k))) hs⟩) hbase hfew hline hs hplain) hsw
/-- .. what is appended is a new list, an object too -/
theorem st_appendE {o : Expr} {apos cpos : Pos} {p : Addr} (ho : wv X ro om o (.obj p)) (hr : Rc om (.obj p) "list") (he : we X F.ex ro om e fun d om' => ∃ ds, om' p = some (.lst ds) ∧ ds.length < sizeLine ∧ ws X F ro (ups om' p (.lst (ds ++ [d]))) rest)
    (hbase : attributeBase o "append" X.env (eval o X.env) = eval o X.env := by rfl)
    (hfew : ((backTo cpos (starEach [e] X.env)).all (fun x => !x.1) && (backToKw cpos (keywordEach [] X.env)).all (fun x => x.1.isSome) && decide ([e].length + ([] : List Keyword).length + (if ([] : List Keyword).isEmpty then 0 else 1) < 30)) = true := by rfl)
    (hline : (apos.endLine == cpos.line) = true := by rfl) (hs : starEach [e] X.env = (false, eval e X.env) :: starEach [] X.env := by rfl) (hplain : (backTo cpos (starEach [] X.env)).any (·.1) = false := by rfl)
    (hsw : swapsWith (.Call (.Attribute o "append" apos) [e] [] cpos) none pos.line X.env = pure false := by rfl) : ws X F ro om (.Expr (.Call (.Attribute o "append" apos) [e] [] cpos) pos :: rest) :=
  st_expr (e_bm PySem.F.plainAttrs_list PySem.F.slot_list_append PySem.F.type_list_append (ho _ _ ⟨hr, a_cons (we_mono he fun d om' ⟨ds, h1, h2, h3⟩ => a_nil (m_append h1 h2 h3)) hs⟩) hbase hfew hline hs hplain) hsw
theorem st_extend {o : Expr} {apos cpos : Pos} {p : Addr} {ds es' : List D} (ho : wv X ro om o (.obj p)) (he : wv X ro om e y) (hp : om p = some (.lst ds)) (l : Lr om y es') (hz : ds.length + es'.length ≤ sizeLine) (k : ws X F ro (ups om p (.lst (ds ++ es'))) rest)
    (hbase : attributeBase o "extend" X.env (eval o X.env) = eval o X.env := by rfl)
    (hfew : ((backTo cpos (starEach [e] X.env)).all (fun x => !x.1) && (backToKw cpos (keywordEach [] X.env)).all (fun x => x.1.isSome) && decide ([e].length + ([] : List Keyword).length + (if ([] : List Keyword).isEmpty then 0 else 1) < 30)) = true := by rfl)
    (hline : (apos.endLine == cpos.line) = true := by rfl) (hs : starEach [e] X.env = (false, eval e X.env) :: starEach [] X.env := by rfl) (hplain : (backTo cpos (starEach [] X.env)).any (·.1) = false := by rfl)
    (hsw : swapsWith (.Call (.Attribute o "extend" apos) [e] [] cpos) none pos.line X.env = pure false := by rfl) : ws X F ro om (.Expr (.Call (.Attribute o "extend" apos) [e] [] cpos) pos :: rest) :=
  st_expr (e_bm PySem.F.plainAttrs_list PySem.F.slot_list_extend PySem.F.type_list_extend (ho _ _ ⟨.lst (.ob hp), a_cons (he _ _ (a_nil (m_extend hp l hz k))) hs⟩) hbase hfew hline hs hplain) hsw
theorem st_clear {o : Expr} {apos cpos : Pos} {p : Addr} {ds : List D} (ho : wv X ro om o (.obj p)) (hp : om p = some (.lst ds)) (k : ws X F ro (ups om p (.lst [])) rest)
    (hbase : attributeBase o "clear" X.env (eval o X.env) = eval o X.env := by rfl) (hline : (apos.endLine == cpos.line) = true := by rfl)
    (hsw : swapsWith (.Call (.Attribute o "clear" apos) [] [] cpos) none pos.line X.env = pure false := by rfl) : ws X F ro om (.Expr (.Call (.Attribute o "clear" apos) [] [] cpos) pos :: rest) :=
  st_expr (e_bm0 PySem.F.plainAttrs_list PySem.F.slot_list_clear PySem.F.type_list_clear (ho _ _ ⟨.lst (.ob hp), m_clear hp k⟩) hbase hline) hsw
/-- if c: return .. -/
theorem st_if {k : Bool} {sa sb : List Stmt} (h : wtv X ro om c k) (h1 : k = true → ws X { F with nx := fun ro' om' => ws X F ro' om' rest } ro om sa) (h2 : k = false → ws X { F with nx := fun ro' om' => ws X F ro' om' rest } ro om sb) : ws X F ro om (.If c sa sb pos :: rest) := ws_cons (s_if h h1 h2)
/-- .. its way known -/
theorem st_ifT {sa sb : List Stmt} (h : wtv X ro om c true) (h1 : ws X { F with nx := fun ro' om' => ws X F ro' om' rest } ro om sa) : ws X F ro om (.If c sa sb pos :: rest) := st_if h (fun _ => h1) (fun z => by cases z)
theorem st_ifF {sa : List Stmt} (h : wtv X ro om c false) (h1 : ws X F ro om rest) : ws X F ro om (.If c sa [] pos :: rest) := st_if h (fun z => by cases z) (fun _ => ws_nil h1)
/-- .. a way that is not gone -/
theorem st_no {k : Bool} {sa : List Stmt} (h : wtv X ro om c k) (hk : k = false) (h1 : ws X F ro om rest) : ws X F ro om (.If c sa [] pos :: rest) := st_ifF (wtv_is h hk) h1
theorem st_yes {k : Bool} {sa sb : List Stmt} (h : wtv X ro om c k) (hk : k = true) (h1 : ws X { F with nx := fun ro' om' => ws X F ro' om' rest } ro om sa) : ws X F ro om (.If c sa sb pos :: rest) := st_ifT (wtv_is h hk) h1
/-- if c: .. without else; the body leaves -/
theorem st_when {k : Bool} {sa : List Stmt} (h : wtv X ro om c k) (h1 : k = true → ws X { F with nx := fun ro' om' => ws X F ro' om' rest } ro om sa) (h2 : k = false → ws X F ro om rest) : ws X F ro om (.If c sa [] pos :: rest) := st_if h h1 (fun z => ws_nil (h2 z))
/-- if c: name = e -/
theorem Lo.ifV {i : Nat} {xn : Str} {pos' p2 : Pos} {k : Bool} {d0 : D} (l : Lo X i xn) (nd : X.N.Nodup) (h : wtv X ro om c k) (h1 : k = true → wv X ro om e d) (h0 : ro[i]? = some (some d0))
    (nx : ws X F (ro.set i (some (if k = true then d else d0))) om rest) (hs : swapsWith e (some (.Name xn pos')) p2.line X.env = pure false := by rfl) : ws X F ro om (.If c [.Assign [.Name xn pos'] e p2] [] pos :: rest) := by
  refine ws_cons (s_if h (fun hk => ws_one (l.asg nd (h1 hk _ _ ?_) hs)) (fun hk => ws_nil ?_))
  · subst hk
    exact nx
  · subst hk
    have e : ro.set i (some d0) = ro := by
      obtain ⟨hl, q⟩ := List.getElem?_eq_some_iff.mp h0
      rw [← q, List.set_getElem_self]
    have nx' : ws X F (ro.set i (some d0)) om rest := nx
    rw [e] at nx'
    exact nx'
/-- the loop over data whose items are of one form -/
theorem st_for {tg iter : Expr} {body : List Stmt} {ds : List D} {Pm : Om → Prop} {g : TG} {U : D → Ro → Ro} (hi : Itd X ro om tg iter ds Pm) (I : Nat → Ro → Om → Prop) (h0 : I 0 ro om) (hP : ∀ i ro' om', I i ro' om' → Pm om')
    (hT : ∀ d, d ∈ ds → Tg X tg d (U d) g) (hs : ∀ (i : Nat) (d : D) (ro' : Ro) (om' : Om), ds[i]? = some d → I i ro' om' → ws X { F with nx := I (i + 1), ct := I (i + 1), bk := fun ro' om' => ws X F ro' om' rest } (U d ro') om' body)
    (hd : ∀ ro' om', I ds.length ro' om' → ws X F ro' om' rest) (hg : PG X tg g) (hp : PassesOwn (model X.prog X.w) X.A X.env X.xe) (hc : X.calm = true) (hfo : ∀ x, foldedSetIterable iter X.env x = pure x := by intro _; rfl) : ws X F ro om (.For tg iter body [] pos :: rest) :=
  ws_cons (w_for (F := { F with nx := fun ro' om' => ws X F ro' om' rest }) hi I h0 hP hT hs hd hg hp hc hfo)
theorem Lo.pg {i : Nat} {xn : Str} {p : Pos} (l : Lo X i xn) (nd : X.N.Nodup) : PG X (.Name xn p) (gName i) := pg_name nd l.at_ l.loc (.inl l.fn)
theorem Lo.pg2 {i j : Nat} {xn yn : Str} {p q tp : Pos} {k : Nat} (l : Lo X i xn) (m : Lo X j yn) (nd : X.N.Nodup) (hc : X.calm = true) (hn : (assignEach [.Name xn p, .Name yn q] X.env).length = 2 := by rfl) (hst : (assignEach [.Name xn p, .Name yn q] X.env).findIdx? (·.1) = none := by rfl) :
    PG X (.Tuple [.Name xn p, .Name yn q] k tp) (gTup X.K 2 (gCons (gName i) (gCons (gName j) gNil))) := pg_tup hc (pgs_cons (l.pg nd) (pgs_cons (m.pg nd) pgs_nil)) hn hst
end
/-! ### comprehensions -/
/-- om' holds all that om holds -/
def Ext (om om' : Om) : Prop := ∀ a o, om a = some o → om' a = some o
theorem Ext.ups {om : Om} {p : Addr} {o : DO} (h : om p = none) : Ext om (ups om p o) := fun a u e => by
  rw [ups_ne (fun z => by subst z; rw [h] at e; cases e)]
  exact e
section
variable {X : Cx} {R : RX} {ro : Ro} {om : Om} {elt tg iter : Expr} {scope : Scope} {own : List (Str × Nat)} {pos : Pos} {g : TG}
/-- the element of a comprehension, for the item d, within its block -/
def We (X : Cx) (ro : Ro) (om : Om) (scope : Scope) (elt : Expr) (z : D) : Prop := ∀ (s : Shared) (H : Hp) (C : Addr) (cl : List (Str × Addr)) (fp : List Addr) (om' : Om), Ext om om' → wv (X.blk s H scope (compEnvC scope cl C X.env) fp) ro om' elt z
def wipeD (ro : Ro) : List Nat → Ro
  | [] => ro
  | v :: vs => (wipeD ro vs).set v none
theorem Ok.wipe {K : PySem.W.Frag} {om0 om1 : Om} {H0 H1 : Hp} {σ : L2.St} (o : Ok K om0 H0 om1 H1 σ ro) : ∀ vs : List Nat, Ok K om0 H0 om1 H1 (L2.wipe σ vs) (wipeD ro vs)
  | [] => o
  | v :: vs => (Ok.wipe o vs).unset v
theorem lc_rd {ds zs : List D} {Pm : Om → Prop} {U : D → Ro → Ro} (hi : Itd X ro om tg iter ds Pm) (hP : ∀ om', Ext om om' → Pm om') (hl : zs.length = ds.length) (hz : ds.length ≤ 100000)
    (hT : ∀ (s : Shared) (H : Hp) (C : Addr) (cl : List (Str × Addr)) (fp : List Addr) (d : D), d ∈ ds → Tg (X.blk s H scope (compEnvC scope cl C X.env) fp) tg d (U d) g)
    (hU : ∀ σ v H0 (Q : L2.St → Hp → Prop), g v (L2.wipe σ (own.map (·.2))) H0 Q → g v (L2.wipe σ (own.map (·.2))) H0 fun σ2 H2 => L2.wipe σ2 (own.map (·.2)) = L2.wipe σ (own.map (·.2)) ∧ Q σ2 H2)
    (he : ∀ (i : Nat) (d z : D), ds[i]? = some d → zs[i]? = some z → We X (U d (wipeD ro (own.map (·.2)))) om scope elt z)
    {om0 : Om} {H0 : Hp} (t : Tk X om0 H0 R) {σ : L2.St} {H : Hp} (o : Ok X.K om0 H0 om H σ ro) {Qv : VK} (q : ∀ p H', om p = none → Ok X.K om0 H0 (ups om p (.lst zs)) H' σ ro → Qv (.ref p) H') :
    tLc (pI X tg iter) g tYes (fun σ2 H2 Q2 => ∀ s H C cl fp, pE (X.blk s H scope (compEnvC scope cl C X.env) fp) elt σ2 H2 Q2) (own.map (·.2)) σ H Qv := by
  refine fun pins s I => wpAny_mono (hi R om0 H0 t σ H o pins s I) (fun v s1 h1 => thn h1 fun itv s2 ⟨it, fp, tn, J, H2, e2, I2, T2, st2, f2, o2, j2⟩ => ?_) (fun _ _ x => x)
  refine ⟨it, fp, tn, J, H2, e2, I2, T2, st2, f2, fun Dl hD => ?_⟩
  have hDo : om Dl = none := o2.store.fresh hD
  refine ⟨fun i m H' => m = ds.length - i ∧ i ≤ ds.length ∧ Ok X.K om0 H0 (ups om Dl (.lst (zs.take i))) H' σ ro ∧ Stable om H2 (ups om Dl (.lst (zs.take i))) H', ⟨ds.length, by simp, Nat.zero_le _, o2.newl hD rfl, Stable.mk hD⟩, ?_⟩
  rintro i m H3 ⟨rfl, hle, o3, s3⟩
  obtain ⟨xsD, hxD, rD⟩ := o3.store Dl _ ups_same
  -- the iterator goes on: seen from the store without the new list
  have j3 := j2 (ups om Dl (.lst (zs.take i))) H3 o3.store s3 (hP _ (Ext.ups hDo))
  by_cases hlt : i < ds.length
  · have hlt2 : i < zs.length := by omega
    refine .inr ⟨(j3.1 i ds[i] (List.getElem?_eq_getElem hlt)).1, fun H' => Ok X.K om0 H0 (ups om Dl (.lst (zs.take (i + 1)))) H' σ ro ∧ Stable om H2 (ups om Dl (.lst (zs.take (i + 1)))) H', fun H' ⟨q1, q2⟩ => ⟨ds.length - (i + 1), by omega, rfl, hlt, q1, q2⟩, fun x' H4 y4 => ?_⟩
    obtain ⟨S4, s4, r4⟩ := (j3.1 i ds[i] (List.getElem?_eq_getElem hlt)).2 x' H4 y4
    have o4 := o3.to S4 s4
    refine hU σ x' H4 _ (hT s H (0 : Nat) [] [] ds[i] (List.getElem_mem hlt) om0 H0 _ H4 (L2.wipe σ (own.map (·.2))) (wipeD ro (own.map (·.2))) x' _ (o4.wipe _) r4 fun σ5 o5 => ?_)
    unfold tYes
    simp only [if_true]
    intro s' H' C cl fp'
    have we5 := he i ds[i] zs[i] (List.getElem?_eq_getElem hlt) (List.getElem?_eq_getElem hlt2) s' H' C cl fp' (ups om Dl (.lst (zs.take i))) (Ext.ups hDo) (fun _ _ _ _ => False) (fun d om' => d = zs[i] ∧ om' = ups om Dl (.lst (zs.take i))) ⟨rfl, rfl⟩
    refine pE_mono (we5 (ups om Dl (.lst (zs.take i))) H4 Tk.no σ5 H4 ⟨o5.store, Stable.refl, o5.slot, o5.len⟩) fun v6 H6 ⟨d6, om6, ⟨e1, e2⟩, o6, r6⟩ => ?_
    subst e1 e2
    obtain ⟨xs6, hx6, rD6⟩ := o6.store Dl _ ups_same
    have ht : zs.take (i + 1) = zs.take i ++ [zs[i]] := by rw [List.take_succ_eq_append_getElem hlt2]
    have e6 : ups (ups om Dl (.lst (zs.take i))) Dl (.lst (zs.take (i + 1))) = ups om Dl (.lst (zs.take (i + 1))) := ups_ups
    have St6 : Stable (ups om Dl (.lst (zs.take i))) H6 (ups om Dl (.lst (zs.take (i + 1)))) (upd H6 Dl (.lst (xs6 ++ [v6]))) := by rw [← e6]; exact Stable.put ups_same
    have So6 : StoreOk X.K (ups om Dl (.lst (zs.take (i + 1)))) (upd H6 Dl (.lst (xs6 ++ [v6]))) := by
      rw [← e6]
      refine o6.store.put ups_same ⟨_, upd_same, ?_⟩
      have q6 : RepL X.K (ups om Dl (.lst (zs.take i))) H6 (zs.take (i + 1)) (xs6 ++ [v6]) := by
        rw [ht]
        exact rD6.app (RepL.one r6)
      exact q6.mono (Stable.put ups_same)
    have o4' : Ok X.K om0 H0 (ups om Dl (.lst (zs.take i))) H4 σ ro := o4
    refine ⟨xs6, hx6, ?_, (o4'.to o6.store o6.stab).to So6 St6, ((s3.trans s4).trans o6.stab).trans St6⟩
    rw [← rD6.length, List.length_take]
    have : sizeLine = 16777216 := sizeLine_eq
    omega
  · have ei : i = ds.length := by omega
    subst ei
    refine .inl ⟨j3.2, q Dl _ hDo ?_⟩
    have ht : zs.take ds.length = zs := List.take_of_length_le (by omega)
    rw [ht] at o3
    exact o3
theorem n_lc {ds zs : List D} {Pm : Om → Prop} {U : D → Ro → Ro} (hi : Itd X ro om tg iter ds Pm) (hP : ∀ om', Ext om om' → Pm om') (hl : zs.length = ds.length) (hz : ds.length ≤ 100000)
    (hT : ∀ (s : Shared) (H : Hp) (C : Addr) (cl : List (Str × Addr)) (fp : List Addr) (d : D), d ∈ ds → Tg (X.blk s H scope (compEnvC scope cl C X.env) fp) tg d (U d) g)
    (hU : ∀ σ v H0 (Q : L2.St → Hp → Prop), g v (L2.wipe σ (own.map (·.2))) H0 Q → g v (L2.wipe σ (own.map (·.2))) H0 fun σ2 H2 => L2.wipe σ2 (own.map (·.2)) = L2.wipe σ (own.map (·.2)) ∧ Q σ2 H2)
    (he : ∀ (i : Nat) (d z : D), ds[i]? = some d → zs[i]? = some z → We X (U d (wipeD ro (own.map (·.2)))) om scope elt z)
    (ok : BlkOk X.N X.env.scope scope own) (hg : ∀ (s : Shared) (H : Hp) (C : Addr) (cl : List (Str × Addr)) (fp : List Addr), PG (X.blk s H scope (compEnvC scope cl C X.env) fp) tg g)
    (hc : X.calm = true) (hN : X.N.Nodup) (hs : ∀ x, foldedSetIterable iter X.env x = pure x := by intro _; rfl) : wn X ro om (.ListComp elt [⟨tg, iter, [], 0⟩] scope pos) zs := .mk fun R Q q => .mk fun om0 H0 t σ H o =>
  pE_of (pe_lc hc hN pI_pi ok hg (fun _ _ _ _ _ => pts_nil) (fun s H C cl fp => ⟨fun pins s' σ' H' Q' I h => h s H C cl fp pins s' I⟩) hs) (lc_rd hi hP hl hz hT hU he t o fun p H' hp o' => ⟨_, _, q p hp, o', rfl⟩)
/-- name = [.. for ..] -/
theorem Lo.lcW {i : Nat} {xn : Str} {pos' spos : Pos} {F : De} {rest : List Stmt} {ds zs : List D} {Pm : Om → Prop} {U : D → Ro → Ro} (l : Lo X i xn) (hy : X.env.scope.names.lookup xn = some .local) (hi : Itd X ro om tg iter ds Pm) (hP : ∀ om', Ext om om' → Pm om') (hl : zs.length = ds.length) (hz : ds.length ≤ 100000)
    (hT : ∀ (s : Shared) (H : Hp) (C : Addr) (cl : List (Str × Addr)) (fp : List Addr) (d : D), d ∈ ds → Tg (X.blk s H scope (compEnvC scope cl C X.env) fp) tg d (U d) g)
    (hU : ∀ σ v H0 (Q : L2.St → Hp → Prop), g v (L2.wipe σ (own.map (·.2))) H0 Q → g v (L2.wipe σ (own.map (·.2))) H0 fun σ2 H2 => L2.wipe σ2 (own.map (·.2)) = L2.wipe σ (own.map (·.2)) ∧ Q σ2 H2)
    (he : ∀ (i : Nat) (d z : D), ds[i]? = some d → zs[i]? = some z → We X (U d (wipeD ro (own.map (·.2)))) om scope elt z)
    (ok : BlkOk X.N X.env.scope scope own) (hg : ∀ (s : Shared) (H : Hp) (C : Addr) (cl : List (Str × Addr)) (fp : List Addr), PG (X.blk s H scope (compEnvC scope cl C X.env) fp) tg g)
    (hc : X.calm = true) (hN : X.N.Nodup) (hsw : swapsWith (.ListComp elt [⟨tg, iter, [], 0⟩] scope pos) (some (.Name xn pos')) spos.line X.env = pure true) (k : ∀ p, om p = none → ws X F (ro.set i (some (.obj p))) (ups om p (.lst zs)) rest)
    (hs : ∀ x, foldedSetIterable iter X.env x = pure x := by intro _; rfl) : ws X F ro om (.Assign [.Name xn pos'] (.ListComp elt [⟨tg, iter, [], 0⟩] scope pos) spos :: rest) := ws_cons <| .mk fun om0 H0 t σ H o =>
  pS_of (ps_setLc hc hN l.at_ hy hsw pI_pi ok hg (fun _ _ _ _ _ => pts_nil) (fun s H C cl fp => ⟨fun pins s' σ' H' Q' I h => h s H C cl fp pins s' I⟩) hs) (lc_rd hi hP hl hz hT hU he t o fun p H' hp o' => ⟨_, _, k p hp, o'.set i rfl⟩)
/-! one name -/
/-- the block's scope, as a test -/
def blkB (N : List Str) (sc scope : Scope) (own : List (Str × Nat)) : Bool := decide (scope.kind = .function) && scope.names.all (fun y => decide (scope.names.lookup y.1 = some y.2)) && own.all (fun p => decide (N[p.2]? = some p.1)) &&
  scope.names.all (fun y => decide (y.2 = .free → sc.names.lookup y.1 = some .cell ∨ sc.names.lookup y.1 = some .free)) && scope.names.all (fun y => decide (y.2 = .local ∨ y.2 = .cell → y.1 ∈ own.map (·.1) ∨ y.1 ∉ N))
theorem blk_ok {N : List Str} {sc : Scope} (hN : X.N = N) (hs : X.env.scope = sc) (h : blkB N sc scope own = true) : BlkOk X.N X.env.scope scope own := by
  rw [hN, hs]
  unfold blkB at h
  simp only [Bool.and_eq_true, List.all_eq_true, decide_eq_true_eq] at h
  obtain ⟨⟨⟨⟨h1, h2⟩, h3⟩, h4⟩, h5⟩ := h
  exact ⟨h1, h2, h3, h4, h5⟩
theorem lc_hU {i : Nat} {xn : Str} : ∀ σ v H0 (Q : L2.St → Hp → Prop), gName i v (L2.wipe σ ([(xn, i)].map (·.2))) H0 Q → gName i v (L2.wipe σ ([(xn, i)].map (·.2))) H0 fun σ2 H2 => L2.wipe σ2 ([(xn, i)].map (·.2)) = L2.wipe σ ([(xn, i)].map (·.2)) ∧ Q σ2 H2 := fun σ v H0 Q h => by
  refine ⟨?_, h⟩
  show (((σ.set i none).set i (some v)).set i none) = σ.set i none
  rw [List.set_set, List.set_set]
theorem lc_hg {i : Nat} {xn : Str} {p : Pos} (hN : X.N.Nodup) (hi : X.N[i]? = some xn) (hl : (scope.names.lookup xn == some .local) = true) : ∀ (s : Shared) (H : Hp) (C : Addr) (cl : List (Str × Addr)) (fp : List Addr), PG (X.blk s H scope (compEnvC scope cl C X.env) fp) (.Name xn p) (gName i) :=
  fun s H C cl fp => by
    have e : (X.blk s H scope (compEnvC scope cl C X.env) fp).env.scope.names.lookup xn = some .local := lookup_relabel_local (beq_iff_eq.mp hl)
    exact pg_name hN hi (.inl e) (.inr e)
/-- .. for one name in the i-th slot -/
theorem n_lc1 {ds zs : List D} {Pm : Om → Prop} {xn : Str} {p : Pos} (i : Nat) {N : List Str} {sc : Scope} (hN : X.N = N) (hsc : X.env.scope = sc) (nd : X.N.Nodup) (hc : X.calm = true) (hb : blkB N sc scope [(xn, i)] = true) (hl : (scope.names.lookup xn == some .local) = true)
    (hi : Itd X ro om (.Name xn p) iter ds Pm) (hP : ∀ om', Ext om om' → Pm om') (hll : zs.length = ds.length) (hz : ds.length ≤ 100000)
    (he : ∀ (j : Nat) (d z : D), ds[j]? = some d → zs[j]? = some z → We X ((ro.set i none).set i (some d)) om scope elt z) (hs : ∀ x, foldedSetIterable iter X.env x = pure x := by intro _; rfl) : wn X ro om (.ListComp elt [⟨.Name xn p, iter, [], 0⟩] scope pos) zs := by
  have ok : BlkOk X.N X.env.scope scope [(xn, i)] := blk_ok hN hsc hb
  exact n_lc (own := [(xn, i)]) (g := gName i) (U := fun d ro => ro.set i (some d)) hi hP hll hz (fun _ _ _ _ _ _ _ => tg_name i) lc_hU he ok (lc_hg nd (ok.ix (xn, i) List.mem_cons_self) hl) hc nd hs
theorem Lo.lc1 {ds zs : List D} {Pm : Om → Prop} {xn yn : Str} {p pos' spos : Pos} {F : De} {rest : List Stmt} {k : Nat} (i : Nat) {N : List Str} {sc : Scope} (l : Lo X k yn) (hN : X.N = N) (hsc : X.env.scope = sc) (nd : X.N.Nodup) (hc : X.calm = true) (hb : blkB N sc scope [(xn, i)] = true) (hl : (scope.names.lookup xn == some .local) = true) (hy : (sc.names.lookup yn == some .local) = true)
    (hi : Itd X ro om (.Name xn p) iter ds Pm) (hP : ∀ om', Ext om om' → Pm om') (hll : zs.length = ds.length) (hz : ds.length ≤ 100000)
    (he : ∀ (j : Nat) (d z : D), ds[j]? = some d → zs[j]? = some z → We X ((ro.set i none).set i (some d)) om scope elt z)
    (hsw : swapsWith (.ListComp elt [⟨.Name xn p, iter, [], 0⟩] scope pos) (some (.Name yn pos')) spos.line X.env = pure true) (kk : ∀ q, om q = none → ws X F (ro.set k (some (.obj q))) (ups om q (.lst zs)) rest) (hs : ∀ x, foldedSetIterable iter X.env x = pure x := by intro _; rfl) :
    ws X F ro om (.Assign [.Name yn pos'] (.ListComp elt [⟨.Name xn p, iter, [], 0⟩] scope pos) spos :: rest) := by
  have ok : BlkOk X.N X.env.scope scope [(xn, i)] := blk_ok hN hsc hb
  exact Lo.lcW (own := [(xn, i)]) (g := gName i) (U := fun d ro => ro.set i (some d)) l (by rw [hsc]; exact beq_iff_eq.mp hy) hi hP hll hz (fun _ _ _ _ _ _ _ => tg_name i) lc_hU he ok (lc_hg nd (ok.ix (xn, i) List.mem_cons_self) hl) hc nd hsw kk hs
/-! names within a block -/
theorem lookup_relabel {env : Env} : ∀ {names : List (Str × NameKind)} {x : Str} {k : NameKind}, names.lookup x = some k → k ≠ .free →
    (names.map fun (n, k) => if (k == NameKind.free && env.scope.kind == .function && env.kindOf n == some .cell) then (n, NameKind.cell) else (n, k)).lookup x = some k
  | [], _, _, h, _ => by simp at h
  | (n, j) :: r, x, k, h, hk => by
    rw [List.lookup_cons] at h
    rw [List.map_cons]
    by_cases e : x = n
    · subst e
      rw [beq_self_eq_true] at h
      cases h
      have hf : (j == NameKind.free) = false := by simpa using hk
      simp only [hf, Bool.false_and, Bool.false_eq_true, if_false, List.lookup_cons, beq_self_eq_true]
    · have e2 : (x == n) = false := by simpa using e
      rw [e2] at h
      have ih := lookup_relabel (env := env) h hk
      dsimp only
      split
      all_goals
        rw [List.lookup_cons, e2]
        exact ih
theorem lookup_relabelF {env : Env} : ∀ {names : List (Str × NameKind)} {x : Str}, names.lookup x = some .free →
    (names.map fun (n, k) => if (k == NameKind.free && env.scope.kind == .function && env.kindOf n == some .cell) then (n, NameKind.cell) else (n, k)).lookup x = some .free ∨
    (names.map fun (n, k) => if (k == NameKind.free && env.scope.kind == .function && env.kindOf n == some .cell) then (n, NameKind.cell) else (n, k)).lookup x = some .cell
  | [], _, h => by simp at h
  | (n, j) :: r, x, h => by
    rw [List.lookup_cons] at h
    rw [List.map_cons]
    by_cases e : x = n
    · subst e
      rw [beq_self_eq_true] at h
      cases h
      dsimp only
      split
      · right; rw [List.lookup_cons, beq_self_eq_true]
      · left; rw [List.lookup_cons, beq_self_eq_true]
    · have e2 : (x == n) = false := by simpa using e
      rw [e2] at h
      have ih := lookup_relabelF (env := env) h
      dsimp only
      split
      all_goals
        rw [List.lookup_cons, e2]
        exact ih
theorem blk_name {i : Nat} {x : Str} {s : Shared} {H : Hp} {C : Addr} {cl : List (Str × Addr)} {fp : List Addr} (n : X.N[i]? = some x) (h : visB scope x = true) : NameAt (X.blk s H scope (compEnvC scope cl C X.env) fp) i x := by
  unfold visB at h
  simp only [Bool.and_eq_true, Bool.or_eq_true, Bool.not_eq_true', beq_iff_eq] at h
  obtain ⟨⟨hv, h2⟩, h3⟩ := h
  refine ⟨n, ?_, h2, h3⟩
  rcases hv with (hv | hv) | hv
  · exact .inl (lookup_relabel hv (by decide))
  · exact .inr (.inl (lookup_relabel hv (by decide)))
  · exact (lookup_relabelF (env := X.env) hv).elim (fun q => .inr (.inr q)) (fun q => .inr (.inl q))
theorem blk_gl {x : Str} {s : Shared} {H : Hp} {C : Addr} {cl : List (Str × Addr)} {fp : List Addr} (h : gloB scope x = true) : Gl (X.blk s H scope (compEnvC scope cl C X.env) fp) x :=
  lookup_relabel (beq_iff_eq.mp h) (by decide)
end
end Mo

set_option Elab.async false
set_option linter.all false
set_option maxRecDepth 100000
set_option maxHeartbeats 4000000
set_option autoImplicit false
/-! Exceptions: raise, try with any clauses; what is caught is an object of the store. -/
namespace Mo
open PySem PySem.Spec PyProof.Rows L2

/-! ### what is caught is tracked -/
theorem exH_ok {P : Program} {w : World} {H : Hp} {h : Heap} {a C : Addr} {d : Option Addr} {oe : Obj} {vs : Array Value} (e : h.get? a = some oe) (z : Zc (.ref C) d oe) (k : oe.data = .fields vs) : ObjOk P w H h a (ExH C d a) :=
  ⟨⟨oe, vs, e, z, k⟩, ⟨oe, e⟩, fun _ _ ⟨o, v, q, r⟩ k => ⟨o, v, k o q, r⟩⟩
section
variable {X : Cx} {pins : List (Addr × Obj)} {σ : L2.St} {H : Hp} {sI s s' : Shared} {B : Heap} {a : Addr} {o : HO}
theorem landX (J : Inv X pins σ H sI) (nb : ∀ b o, sI.heap.get? b = some o → b ∉ frs X.stack → B.get? b = some o) (stays : B.StaysIn s'.heap) (up : sI.heap.UpToSlots s'.heap) (os : s'.os = sI.os) (ag : AllBare s'.gens) (na : H a = none) (ng : sI.heap.get? a = none)
    (new : ObjOk X.prog X.w (upd H a o) s'.heap a o) : Inv X pins σ (upd H a o) s' := by
  have nf : ∀ b ∈ frs X.stack, ∀ u, sI.heap.get? b = some u → ∃ sl, s'.heap.get? b = some { u with slots := sl } := fun b kb u e => by
    obtain ⟨_, u', e', hd⟩ := J.stack.mem kb
    rw [e] at e'
    cases e'
    exact up b u e hd
  have ne : ∀ b u, sI.heap.get? b = some u → b ≠ a := fun b u e z => by rw [z, ng] at e; cases e
  have K := J.call (ch := []) (h' := s'.heap) (g' := s'.gens) (t' := s'.toks) (d' := s'.drawn) (H' := upd H a o)
    ⟨fun b u e _ kb _ => stays b u (nb b u e kb), fun b u e _ kb _ => nf b kb u e, fun b u e n _ => by rw [upd_ne (ne b u e)]; exact n,
      fun b u e _ => (by
        by_cases kb : b ∈ frs X.stack
        · obtain ⟨sl, q⟩ := nf b kb u e
          exact ⟨_, q⟩
        · exact ⟨u, stays b u (nb b u e kb)⟩),
      fun b xs e => by rw [upd_ne (ne_of_none e na)]; exact e, fun b u xs e => by rw [upd_ne (ne_of_none e na)]; exact e, fun b ps e => ⟨#[], by rw [upd_ne (ne_of_none e na), e]; simp⟩⟩
    (HOk.laidN ((J.inGround nb).kept stays) (fun _ _ e => e) na new) ag (fun _ z => nomatch z)
  obtain ⟨a1, a2, a3, a4, a5⟩ := s'
  obtain rfl : a5 = sI.os := os
  exact K
theorem inSuite (I : Inv X pins σ H s) (a : Addr) : Inv (X.suite a (X.pn ++ pins)) [] σ H s :=
  ⟨I.ok.suite _ _, I.os, I.bare, I.base, I.loc, I.cell, I.free, I.freeC, fun p kp => I.pin p (by rw [List.append_nil] at kp; exact kp), I.hok, I.len⟩
theorem offSuite {pn' : List (Addr × Obj)} (I : Inv (X.suite a (X.pn ++ pins)) pn' σ H s) (ok : X.Ok) : Inv X pins σ H s :=
  ⟨ok, I.os, I.bare, I.base, I.loc, I.cell, I.free, I.freeC, fun p kp => I.pin p (List.mem_append_left _ kp), I.hok, I.len⟩
end

/-! ### try -/
/-- no exception -/
def xNo : RX := fun _ _ _ _ => False
/-- behind a suite the clause's name goes -/
def De.gone (F : De) (i : Nat) : De := { nx := fun ro om => F.nx (ro.set i none) om, rt := F.rt, bk := fun ro om => F.bk (ro.set i none) om, ct := fun ro om => F.ct (ro.set i none) om, ex := xNo }
def De.calm (F : De) : De := { F with ex := xNo }
/-- what the clauses want of an exception of the body -/
def hEx (X : Cx) (F : De) : List ExceptHandler → RX
  | [] => F.ex
  | .ExceptHandler (some (.Name x _)) none (b :: bs) _ :: r => fun c fs ro om => ∃ (cv : Value) (k : Bool), Names X x cv ∧ PySem.W.exmOne X.K c cv = some k ∧
      (k = true → ∃ C, c = .ref C ∧ ∀ a pn, om a = none → ws (X.suite a pn) F.calm ro (ups om a (.exc C fs)) (b :: bs)) ∧ (k = false → hEx X F r c fs ro om)
  | .ExceptHandler (some (.Name x _)) (some n) (b :: bs) _ :: r => fun c fs ro om => ∃ (cv : Value) (k : Bool) (i : Nat), Names X x cv ∧ X.N[i]? = some n ∧ X.env.kindOf n = some .local ∧ PySem.W.exmOne X.K c cv = some k ∧
      (k = true → ∃ C, c = .ref C ∧ ∀ a pn, om a = none → ws (X.suite a pn) (F.gone i) (ro.set i (some (.obj a))) (ups om a (.exc C fs)) (b :: bs)) ∧ (k = false → hEx X F r c fs ro om)
  | _ :: _ => xNo
section
variable {X : Cx} {F : De} {ro : Ro} {om : Om} {body : List Stmt} {h₀ : ExceptHandler} {hds : List ExceptHandler} {pos : Pos}
theorem w_try (stk : X.stack = X.env :: X.outer) (frm : X.env.frame = some X.env.locals) (nd : X.N.Nodup)
    (hb : ∀ (pn : List (Addr × Obj)) (xe : Value → Shared → Prop), PassesOwn (model X.prog X.w) X.A X.env xe → ws (X.tr pn xe) { F with ex := hEx X F (h₀ :: hds) } ro om body) : w1 X F ro om (.Try body (h₀ :: hds) [] [] pos) := .mk fun om0 H0 t σ H o pins s I => by
  have ok := I.ok
  have hfr : X.A.frames = some (X.env :: X.outer) := by rw [ok.frames, stk]
  refine wpAny_Try_except ?_
  let xe' : Value → Shared → Prop := fun e s₁ => wpAny (model X.prog X.w) X.A (noteFrame e X.env) (fun _ s₂ => wpAny (model X.prog X.w) X.A (setFlight e none)
    (fun _ s₃ => wpAny (model X.prog X.w) X.A (handleBy e X.env (h₀ :: hds)) (SP X pins (ends X.K om0 H0 F)) X.xe s₃) X.xe s₂) X.xe s₁
  have tk : Tk (X.tr (X.pn ++ pins) xe') om0 H0 (hEx X F (h₀ :: hds)) := fun u s' xx => by
    obtain ⟨a, B, sI, pins', σ1, H1, cls, d, rfl, J', nb, up, sky, na, os, ag, fs, ro1, om1, w, o1, x1⟩ := xx
    have J : Inv X pins σ1 H1 sI := J'.ofTry ok
    have sky1 : Sky B (X.env :: X.outer) a (Zc cls d) X.env.locals s'.heap := by rw [← stk]; exact sky
    show wpAny (model X.prog X.w) X.A (noteFrame (.ref a) X.env) _ _ _
    refine Sky.land Zc.steady hfr frm sky1 fun h3 fl3 up3 => ?_
    have J3 : Inv X pins σ1 H1 { s' with heap := h3 } := J.landed nb fl3.1 (up.trans up3) os ag
    obtain ⟨oe3, vs3, he3, hz3, hd3⟩ := fl3.there
    have nfr : a ∉ frs (X.env :: X.outer) := fun hm => by
      obtain ⟨_, o', e', hnf⟩ := fl3.2.2.1.mem hm
      rw [he3] at e'
      cases e'
      exact hnf _ hd3
    have ng : sI.heap.get? a = none := by
      cases q : sI.heap.get? a with
      | none => rfl
      | some u =>
        have z := nb a u q (by rw [stk]; exact nfr)
        rw [fl3.2.1] at z
        cases z
    have LT : PySem.W.Looks (model X.prog X.w) h3 (typeOf (.ref a)) cls := fun A Q E s k q => by
      refine wpAny_typeOf_ref (k _ _ he3) ?_
      rw [hz3.1]
      exact q
    have test : ∀ {x : Str} {np : Pos} {c : Value} {Q : Value → Shared → Prop} {E : Value → Shared → Prop}, Names X x c → Q c { s' with heap := h3 } → wpAny (model X.prog X.w) (X.A.mark (some (.ref a))) (eval (.Name x np) X.env) Q E { s' with heap := h3 } :=
      fun {x np c Q E} ⟨hg, kdb, hm⟩ q => by
        rcases hm with hm | ⟨hm, hv, hnn⟩
        · exact ld_glob (X := X.suite a (X.pn ++ pins)) (inSuite J3 a) hg hm q kdb
        · exact ld_blt (X := X.suite a (X.pn ++ pins)) (inSuite J3 a) hg hm hv q hnn kdb
    -- a clause takes it: it is tracked
    have took : ∀ {C : Addr} {Q : Unit → Shared → Prop} {E : Value → Shared → Prop}, cls = .ref C → (∀ h4, Inv X pins σ1 (upd H1 a (ExH C d a)) { s' with heap := h4 } → Ok X.K om0 H0 (ups om1 a (.exc C fs)) (upd H1 a (ExH C d a)) σ1 ro1 → Q () { s' with heap := h4 }) →
        wpAny (model X.prog X.w) (X.A.mark (some (.ref a))) (setFlight (.ref a) none) Q E { s' with heap := h3 } := fun {C Q E} ec k => by
      refine HandSPX.lands_againZ fl3 fun h4 fl4 up4 => ?_
      obtain ⟨oe4, vs4, he4, hz4, hd4⟩ := fl4.there
      subst ec
      refine k h4 (landX (s' := { s' with heap := h4 }) J nb fl4.1 ((up.trans up3).trans up4) os ag na ng (exH_ok he4 hz4 hd4)) ?_
      exact o1.to (o1.store.mk na ⟨d, upd_same, x1.mono (Stable.mk na)⟩) (Stable.mk na)
    have go : ∀ l : List ExceptHandler, hEx X F l cls fs ro1 om1 → wpAny (model X.prog X.w) X.A (handleBy (.ref a) X.env l) (SP X pins (ends X.K om0 H0 F)) X.xe { s' with heap := h3 } := fun l => by
      induction l with
      | nil =>
        intro w
        refine wpAny_handleBy_nil ?_
        obtain ⟨_, _, _, oe, vs, T, oT, ts', he, hz, hd, h1, hr⟩ := id fl3
        unfold PySem.passOn
        refine wpAny_bind (wpAny_field he hd h1 ?_)
        rw [if_neg (fun z => by simp at z)]
        have fin : wpAny (model X.prog X.w) X.A (setFlight (.ref a) X.env.frame) (fun _ s4 => wpAny (model X.prog X.w) X.A (throw (.ref a) : Sem Flow) (SP X pins (ends X.K om0 H0 F)) X.xe s4) X.xe { s' with heap := h3 } := by
          rw [frm]
          refine HandSPX.setFlight_upZ fl3 fun h4 hh4 up4 => wpAny_throw (t _ _ ?_)
          exact ⟨a, B, sI, pins, σ1, H1, cls, d, rfl, J, nb, (up.trans up3).trans up4, .inr (.inr (by rw [stk]; exact hh4)), na, os, ag, fs, ro1, om1, w, o1, x1⟩
        first
          | exact wpAny_bind (wpAny_pure (wpAny_bind fin))
          | exact wpAny_bind fin
      | cons h l ih =>
        intro w
        rcases h with ⟨_ | ty, nm, bd, p'⟩
        · exact False.elim w
        cases ty
        all_goals first | exact False.elim w | rename_i x np
        rcases bd with _ | ⟨b, bs⟩
        · cases nm <;> exact False.elim w
        rcases nm with _ | n
        · obtain ⟨cv, k, hc, hk, yes, no⟩ := w
          refine wpAny_handleBy_cons (codeAny_handlers_test ?_) (by intro z; cases z)
          refine test hc ((PySem.W.exm_one (M := model X.prog X.w) J3.kIn LT hk).here ?_)
          cases k with
          | false => exact ih (no rfl)
          | true =>
            obtain ⟨C, ec, hw⟩ := yes rfl
            refine codeAny_handlers_suite (took ec fun h4 J4 o4 => ?_)
            refine wpAny_mono (hw a (X.pn ++ pins) (o1.store.fresh na) om0 H0 Tk.no σ1 _ o4 [] _ (inSuite J4 a)) (fun f s6 hsp => ?_) (fun _ _ z => False.elim z)
            cases f with
            | next => obtain ⟨σ6, H6, S6, q6⟩ := hsp; exact ⟨_, _, offSuite S6 ok, q6⟩
            | brk => obtain ⟨σ6, H6, S6, q6⟩ := hsp; exact ⟨_, _, offSuite S6 ok, q6⟩
            | cont => obtain ⟨σ6, H6, S6, q6⟩ := hsp; exact ⟨_, _, offSuite S6 ok, q6⟩
            | ret u => obtain ⟨v6, σ6, H6, S6, r6, q6⟩ := hsp; exact ⟨_, _, _, offSuite S6 ok, r6, q6⟩
        · obtain ⟨cv, k, i, hc, hi, hln, hk, yes, no⟩ := w
          refine wpAny_handleBy_cons (codeAny_handlers_test ?_) (by intro z; cases z)
          refine test hc ((PySem.W.exm_one (M := model X.prog X.w) J3.kIn LT hk).here ?_)
          cases k with
          | false => exact ih (no rfl)
          | true =>
            obtain ⟨C, ec, hw⟩ := yes rfl
            refine codeAny_handlers_suite_as (took ec fun h4 J4 o4 => ?_)
            refine store_ok (X := X.suite a (X.pn ++ pins)) (v := .ref a) (inSuite J4 a) nd hi (.inl hln) rfl (fun s5 S5 => ?_) (.inr hln)
            have o5 : Ok X.K om0 H0 (ups om1 a (.exc C fs)) (upd H1 a (ExH C d a)) (σ1.set i (some (.ref a))) (ro1.set i (some (.obj a))) := o4.set i rfl
            refine wpAny_mono (hw a (X.pn ++ pins) (o1.store.fresh na) om0 H0 Tk.no _ _ o5 [] _ S5) (fun f s6 hsp => ?_) (fun _ _ z => False.elim z)
            have leave : ∀ {σ6 : L2.St} {H6 : Hp} {Q : Shared → Prop}, Inv (X.suite a (X.pn ++ pins)) [] σ6 H6 s6 → (∀ s7, Inv X pins (σ6.set i none) H6 s7 → Q s7) →
                wpAny (model X.prog X.w) X.A (do bindName X.env n .none; unbindBehindTheSuite X.env n p') (fun _ s7 => Q s7) X.xe s6 := fun S6 k6 => gone_ok (offSuite S6 ok) nd hi hln k6
            cases f with
            | next =>
              obtain ⟨σ6, H6, S6, ro6, om6, q6, o6⟩ := hsp
              exact leave S6 fun s7 J7 => ⟨_, _, J7, _, om6, q6, o6.unset i⟩
            | brk =>
              obtain ⟨σ6, H6, S6, ro6, om6, q6, o6⟩ := hsp
              exact leave S6 fun s7 J7 => ⟨_, _, J7, _, om6, q6, o6.unset i⟩
            | cont =>
              obtain ⟨σ6, H6, S6, ro6, om6, q6, o6⟩ := hsp
              exact leave S6 fun s7 J7 => ⟨_, _, J7, _, om6, q6, o6.unset i⟩
            | ret u =>
              obtain ⟨v6, σ6, H6, S6, r6, q6⟩ := hsp
              exact leave S6 fun s7 J7 => ⟨_, _, _, J7, r6, q6⟩
    exact go _ w
  refine wpAny_mono (hb (X.pn ++ pins) xe' PassesOwn.looking om0 H0 tk σ H o [] s (I.toTry _)) (fun f s1 hsp => ?_) (fun e s1 he => he)
  cases f with
  | next => obtain ⟨σ1, H1, J1, q⟩ := hsp; exact wpAny_execs_nil ⟨σ1, H1, J1.ofTry ok, q⟩
  | brk => obtain ⟨σ1, H1, J1, q⟩ := hsp; exact ⟨σ1, H1, J1.ofTry ok, q⟩
  | cont => obtain ⟨σ1, H1, J1, q⟩ := hsp; exact ⟨σ1, H1, J1.ofTry ok, q⟩
  | ret u => obtain ⟨v, σ1, H1, J1, r, q⟩ := hsp; exact ⟨v, σ1, H1, J1.ofTry ok, r, q⟩
end
end Mo

set_option Elab.async false
set_option linter.all false
set_option maxRecDepth 100000
set_option maxHeartbeats 4000000
set_option autoImplicit false
/-! The own exception classes: what the written part says of them; raise; a field, isinstance of what was caught. -/
namespace Mo
open PySem PySem.Spec PyProof.Rows L2

/-! ### raise X('m') -/
/-- x names the class at C, an own exception class without __init__ -/
structure Xc0 (K : PySem.W.Frag) (mg : Str → Option Value) (x : Str) (C : Addr) : Prop where
  g : mg x = some (.ref C)
  ex : PySem.W.excIn K C He.veBase "ValueError.__new__" = true
  kp : PySem.W.keepIn K (.ref C) = true
  sub : PySem.W.subIn K (.ref C) (.type "BaseException") = some true
  ty : PySem.W.typeIn K (.ref C) = some (.type "type")
section
variable {X : Cx} {F : De} {ro : Ro} {om : Om} {e : Expr} {pos : Pos} {d : D} {x f : Str} {C : Addr} {rest : List Stmt}
theorem s_raise {m : Str} {j : Nat} {p p2 p3 : Pos} (c : Xc0 X.K X.mg x C) (q : F.ex (.ref C) [] ro om) (hc : X.calm = true) (hg : Gl X x) (hdb : (x == ("__debug__" : Str)) = false := by decide) :
    ws X F ro om (.Raise (some (.Call (.Name x p) [.Constant (.str m) j p2] [] p3)) none pos :: rest) := ws_cons <| .mk fun om0 H0 t σ H o =>
  pS_of (ps_raise hc t (pmk_own PySem.F.excBase_ValueError c.ex c.g c.kp (raises_own c.sub c.ty) hg hdb)) (show Wof X.K om0 H0 F.ex (.ref C) none σ H from ⟨[], ro, om, q, o, rfl⟩)

/-! ### raise X(e) -/
/-- the own __init__ keeps its one argument as the field f -/
def spX (K : PySem.W.Frag) (C : Addr) (f : Str) : Sp := fun vs H Q _ => OexC K C ∧ PySem.W.findIn K (.ref C) f = some none ∧ ∃ (a : Addr) (y : V), vs = [.ref a, y] ∧ H a = some (exo a C none) ∧
  ∀ dx, H dx = none → dx ≠ a → Q .non (upd (upd H dx (exd dx [(f, y)])) a (exo a C (some dx)))
theorem init_ok {P : Program} {w : World} {K : PySem.W.Frag} {mg : Str → Option Value} {base : Heap} {dd : He.DefD} {fa : Addr} {fd : FuncData} {sn xn : Str} {p1 p2 p3 p4 : Pos} (Fu : Df K dd fa fd) (S : FnScope [sn, xn] [sn, xn] dd.scope)
    (hv : (visB dd.scope sn && visB dd.scope xn) = true) (hb : dd.body = [.Assign [.Attribute (.Name sn p1) f p2] (.Name xn p3) p4])
    (hs : ∀ env line, swapsWith (.Name xn p3) (some (.Attribute (.Name sn p1) f p2)) line env = pure false := by intro _ _; rfl) : FnOk P w K mg base (L2.CX P w) 1 fa fd [sn, xn] (spX K C f) := by
  obtain ⟨v1, v2⟩ := Bool.and_eq_true_iff.mp hv
  refine FunD.ok Fu S (fun vs H Q E ⟨_, _, a, y, e, _⟩ => by rw [e]; rfl) (fun cdv A outer s H vs Q E hr hsp => ?_)
  obtain ⟨T, hno, a, y, rfl, ha, hq⟩ := hsp
  have n1 : NameAt (cxOf (L2.CX P w) P w K mg base [sn, xn] dd.qual dd.scope fa cdv A outer s H E) 0 sn := nameAt_of rfl v1
  have n2 : NameAt (cxOf (L2.CX P w) P w K mg base [sn, xn] dd.qual dd.scope fa cdv A outer s H E) 1 xn := nameAt_of rfl v2
  rw [hb]
  refine ⟨_, pss_one (ps_ost (pe_var n1.at_ n1.vis n1.db n1.cd) (pe_var n2.at_ n2.vis n2.db n2.cd) (hs _ _)), ?_⟩
  exact ⟨y, rfl, .ref a, rfl, a, C, rfl, T, hno, .inl ⟨ha, fun dx h1 h2 => hq dx h1 h2⟩⟩
/-- x names the class at C, whose __init__ keeps the field f -/
structure XcF (P : Program) (w : World) (K : PySem.W.Frag) (mg : Str → Option Value) (base : Heap) (x f : Str) (C : Addr) : Prop where
  g : mg x = some (.ref C)
  ox : OexC K C
  no : PySem.W.findIn K (.ref C) f = some none
  ini : ∃ (fI : Addr) (fd : FuncData) (ps : List Str), PySem.W.findIn K (.ref C) "__init__" = some (some (.ref fI)) ∧ PySem.W.typeIn K (.ref fI) = some (.type "function") ∧ FnOk P w K mg base (L2.CX P w) 1 fI fd ps (spX K C f) ∧ Binds K fd ps []
theorem s_raiseF {p p3 : Pos} (c : XcF X.prog X.w X.K X.mg X.base x f C) (h : wv X ro om e d) (q : F.ex (.ref C) [(f, d)] ro om) (hc : X.calm = true) (hr : Room 2 X.A) (hg : Gl X x) (hdb : (x == ("__debug__" : Str)) = false := by decide)
    (he : starEach (e :: []) X.env = (false, eval e X.env) :: starEach [] X.env := by rfl) (hpl : (backTo p3 (starEach [] X.env)).any (·.1) = false := by rfl) :
    ws X F ro om (.Raise (some (.Call (.Name x p) [e] [] p3)) none pos :: rest) := ws_cons <| .mk fun om0 H0 t σ H o => by
  obtain ⟨fI, fd, ps, iC, tI, F1, hb⟩ := c.ini
  refine pS_of (ps_raise hc t (pmk_oex (ds := []) (dvs := []) c.ox iC tI F1 hr hb .nil (fun _ _ _ _ _ _ _ z => ?_) hg c.g pA_pa hdb he hpl)) ?_
  · obtain ⟨_, _, _, _, _, _, _, _, _, _, _, _, z⟩ := z
    exact z.elim
  have ha : wav X ro om [e] [d] := av_cons h av_nil he
  refine pA_mono (ha (fun _ _ _ _ => False) (fun ds om' => ds = [d] ∧ om' = om) ⟨rfl, rfl⟩ om0 H0 Tk.no σ H o) fun vs H1 ⟨ds, om1, ⟨e1, e2⟩, o1, r1⟩ => ?_
  subst e1 e2
  obtain ⟨y, _, rfl, ry, rfl⟩ := r1
  refine ⟨show 1 ≤ 1000 by decide, fun a hn => ⟨c.ox, c.no, a, y, rfl, upd_same, fun dx h1 h2 => ?_⟩⟩
  have hd1 : H1 dx = none := by rw [upd_ne h2] at h1; exact h1
  refine ⟨rfl, dx, [(f, y)], upd_same, by rw [upd_ne h2, upd_same], hd1, ?_⟩
  have eH : upd (del (upd (upd (upd H1 a (exo a C none)) dx (exd dx [(f, y)])) a (exo a C (some dx))) a) dx (.xd [(f, y)]) = upd H1 dx (.xd [(f, y)]) := by
    funext b
    by_cases k1 : b = dx
    · subst k1
      rw [upd_same, upd_same]
    · rw [upd_ne k1, upd_ne k1]
      by_cases k2 : b = a
      · subst k2
        rw [del_same, hn]
      · rw [del_ne k2, upd_ne k2, upd_ne k1, upd_ne k2]
  rw [eH]
  have st : Stable om1 H1 om1 (upd H1 dx (.xd [(f, y)])) := Stable.new hd1
  exact ⟨[(f, d)], ro, om1, q, o1.to (o1.store.new hd1) st, [(f, y)], upd_same, o1.store.fresh hd1, rfl, y, [], rfl, ry.mono st, rfl⟩
end

/-! ### what was caught -/
section
variable {X : Cx} {R : RX} {ro : Ro} {om : Om} {e : Expr} {pos : Pos} {d : D} {f : Str} {p C : Addr} {fs : List (Str × D)}
/-- its field -/
theorem v_xfld (h : wv X ro om e (.obj p)) (hp : om p = some (.exc C fs)) (T : XfC X.K C) (no : PySem.W.findIn X.K (.ref C) f = some none) (hl : fs.lookup f = some d) (hb : attributeBase e f X.env (eval e X.env) = eval e X.env := by rfl) : wv X ro om (.Attribute e f pos) d := .mk fun R Q q => .mk fun om0 H0 t σ H o =>
  fun pins s I => attr_of hb (thn (h R (fun d' om' => d' = .obj p ∧ om' = om) ⟨rfl, rfl⟩ om0 H0 t σ H o pins s I) fun u s1 ⟨v, H1, I1, ru, d', om1, ⟨e1, e2⟩, o1, r1⟩ => by
    subst e1 e2
    cases r1
    obtain rfl : u = Value.ref p := ru
    obtain ⟨dd, h1, x1⟩ := o1.store _ _ hp
    obtain ⟨⟨oe, vs, ho, hz, hd⟩, _, _⟩ := (show ObjOk X.prog X.w H1 s1.heap p (ExH C dd p) from I1.hok p _ h1)
    cases dd with
    | none =>
      obtain rfl : fs = [] := x1
      cases hl
    | some dd =>
      obtain ⟨fs', h2, _, h3, h4⟩ := x1
      obtain ⟨y, h5, h6⟩ := lk_rep h3 h4 hl
      obtain ⟨mA, hns, hr⟩ := (show ObjOk X.prog X.w H1 s1.heap dd (.xd fs') from I1.hok dd _ h2)
      obtain ⟨od, hod, hlk⟩ := lookIn_ns hns
      obtain ⟨u, hu, ry⟩ := RelO.some_of (v := y) (o := mA f) (by rw [← h5]; exact hr f)
      have J : PySem.W.InstAt s1.heap p oe C (some od) := ⟨ho, hz.1, by unfold PySem.W.notCls; rw [hd] <;> rfl, by rw [hz.2]; exact hod⟩
      exact HandSPX.exc_get I1.kIn J T.ga T.gg T.exC (PySem.W.findObj_own T.hdC no rfl (by rw [hlk, hu])) (handed_of ry) ⟨y, H1, I1.tok _, ry, d, _, q, o1, h6⟩)
/-- what isinstance asks of the class -/
structure Xis (K : PySem.W.Frag) (C : Addr) : Prop where
  cl : (PySem.W.clsIn K C).isSome = true
  ga : PySem.W.findIn K (.ref C) "__getattribute__" = some (some (.builtin "BaseException.__getattribute__"))
  gt : PySem.W.findIn K (.ref C) "__getattr__" = some none
  sub : PySem.W.subIn K (.ref C) (.type "BaseException") = some true
  ha : PySem.W.findIn K (.ref C) "__class__" = some (some (.builtin "object.__class__"))
  hn : PySem.W.specialIn K (.builtin "object.__class__") "__get__" = some (some (.builtin "getset_descriptor.__get__"))
  ht : PySem.W.takesIn K (.builtin "object.__class__") = some true
  hm : PySem.W.mroIn K C (.type "object") = some true
/-- isinstance(e, c), e a caught exception -/
def rIsX (K : PySem.W.Frag) : List V → Hp → VK → Prop := fun xs H Q => ∃ (a C : Addr) (d : Option Addr) (c : V) (u : Value) (b : Bool), xs = [.ref a, c] ∧ H a = some (ExH C d a) ∧ (∀ dd, d = some dd → ∃ fs, H dd = some (.xd fs)) ∧ ClsV c u ∧ Xis K C ∧ PySem.W.kitOne K (.ref C) u = some b ∧ Q (.bl b) H
def rIsXT (K : PySem.W.Frag) : List V → Hp → VK → Prop := fun xs H Q => ∃ (a C tp : Addr) (d : Option Addr) (cs : List V) (us : List Value) (b : Bool), xs = [.ref a, .ref tp] ∧ H a = some (ExH C d a) ∧ (∀ dd, d = some dd → ∃ fs, H dd = some (.xd fs)) ∧ H tp = some (.tup cs) ∧ Paired ClsV cs us ∧
  Xis K C ∧ PySem.W.kitAny K (.ref C) us = some b ∧ Q (.bl b) H
theorem inst_x {pins : List (Addr × Obj)} {σ : L2.St} {H : Hp} {s : Shared} {a : Addr} {dd : Option Addr} (I : Inv X pins σ H s) (h : H a = some (ExH C dd a)) (hd : ∀ d, dd = some d → ∃ fs, H d = some (.xd fs)) : ∃ oe od, PySem.W.InstAt s.heap a oe C od := by
  obtain ⟨⟨oe, vs, ho, hz, hv⟩, _, _⟩ := (show ObjOk X.prog X.w H s.heap a (ExH C dd a) from I.hok a _ h)
  have nc : PySem.W.notCls oe = true := by
    unfold PySem.W.notCls
    rw [hv] <;> rfl
  cases dd with
  | none => exact ⟨oe, none, ho, hz.1, nc, by rw [hz.2]; trivial⟩
  | some d =>
    obtain ⟨fs, hf⟩ := hd d rfl
    obtain ⟨mA, hns, hr⟩ := (show ObjOk X.prog X.w H s.heap d (.xd fs) from I.hok d _ hf)
    obtain ⟨od, hod, _⟩ := lookIn_ns hns
    exact ⟨oe, some od, ho, hz.1, nc, by rw [hz.2]; exact hod⟩
theorem call_isX : CallR X (.builtin "isinstance") (rIsX X.K) := by
  intro pins s σ H xs us Q I r h
  obtain ⟨a, C, dd, c, u, b, rfl, h1, h2, hc, T, hk, q⟩ := h
  obtain ⟨u1, u2, rfl, r1, r2⟩ := vals2 r
  have e2 := hc.eq r2
  subst e2
  obtain rfl : u1 = Value.ref a := r1
  obtain ⟨oe, od, J⟩ := inst_x I h1 h2
  exact PySem.W.kia_one (PySem.W.kitx_exc T.cl T.ga T.gt T.sub T.ha T.hn T.ht T.hm) I.kIn J hk (fun z => nomatch z) fun tk => ⟨.bl b, H, I.tok tk, rfl, q⟩
theorem call_isXT : CallR X (.builtin "isinstance") (rIsXT X.K) := by
  intro pins s σ H xs us Q I r h
  obtain ⟨a, C, tp, dd, cs, vs, b, rfl, h1, h2, hT, hc, T, hk, q⟩ := h
  obtain ⟨u1, u2, rfl, r1, r2⟩ := vals2 r
  obtain rfl : u1 = Value.ref a := r1
  obtain rfl : u2 = Value.ref tp := r2
  obtain ⟨oe, od, J⟩ := inst_x I h1 h2
  obtain ⟨_, its, rv, o, g1, g2, n, g3⟩ := (show ObjOk X.prog X.w H s.heap tp (.tup cs) from I.hok tp _ hT)
  have e3 := ClsV.all hc rv
  subst e3
  obtain ⟨oc, od2, dt, sl⟩ := o
  dsimp only at g2 g3
  subst g2
  subst g3
  exact PySem.W.kia_tup (PySem.W.kitx_exc T.cl T.ga T.gt T.sub T.ha T.hn T.ht T.hm) I.kIn J g1 hk (fun z => nomatch z) fun tk => ⟨.bl b, H, I.tok tk, rfl, q⟩
theorem exc_dd {K : PySem.W.Frag} {H : Hp} {dd : Option Addr} (x : XdOk K om H dd fs) : ∀ d, dd = some d → ∃ fs, H d = some (.xd fs) := fun d e => by
  subst e
  obtain ⟨fs', h, _⟩ := x
  exact ⟨fs', h⟩
theorem v_isX {cn : Str} {p1 p2 : Pos} {u : Value} {k : Bool} (h : wv X ro om e (.obj p)) (hp : om p = some (.exc C fs)) (T : Xis X.K C) (kl : Kl X cn u) (hk : PySem.W.kitOne X.K (.ref C) u = some k) (B : Bi X "isinstance" (.builtin "isinstance")) (hg2 : Gl X cn) (hg : Gl X "isinstance")
    (he : starEach (e :: [.Name cn p2]) X.env = (false, eval e X.env) :: starEach [.Name cn p2] X.env := by rfl) (he2 : starEach [.Name cn p2] X.env = (false, eval (.Name cn p2) X.env) :: starEach [] X.env := by rfl)
    (hpl : (backTo pos (starEach [.Name cn p2] X.env)).any (·.1) = false := by rfl) : wv X ro om (.Call (.Name "isinstance" p1) [e, .Name cn p2] [] pos) (.bl k) := .mk fun R Q q => .mk fun om0 H0 t' σ H o => by
  obtain ⟨v, cv, pe⟩ := kl.pe (p := p2) hg2
  cases B with
  | fn id hm hv hn hd =>
    refine pE_of (pe_callB call_isX hg hm hv (pa_cons pE_pe (pa_cons pe pa_nil he2) he) hn hd he hpl) ?_
    refine pE_mono (h R (fun d om' => d = .obj p ∧ om' = om) ⟨rfl, rfl⟩ om0 H0 t' σ H o) fun w H1 ⟨d, om1, ⟨e1, e2⟩, o1, r1⟩ => ?_
    subst e1 e2
    cases r1
    obtain ⟨dd, h1, x1⟩ := o1.store _ _ hp
    exact ⟨p, C, dd, v, u, k, rfl, h1, exc_dd x1, cv, T, hk, _, _, q, o1, rfl⟩
end

/-! ### the facts, as tests of the written part -/
/-- an own class over ValueError, its instances with a dict -/
def oexT (K : PySem.W.Frag) (C : Addr) : Bool := match K.lookup C with
  | some ⟨.type t, _, .cls c, l⟩ => (match c.mro, l.toList with
    | .ref D :: m, [_, _, _, _, some (.builtin b), _] => decide (t = "type") && decide (D = C) && decide (b = "ValueError.__new__") && c.hasDict && !c.hasDel && PySem.HandSPX.refsVE m
    | _, _ => false)
  | _ => false
theorem oexT_ok {K : PySem.W.Frag} {C : Addr} (h : oexT K C = true) : ∃ nm q N bs bm sn sub ab col dd k0 k1 k2 k3 k5, K.lookup C = some (excClassObj nm q C N bs bm true sn sub ab col dd k0 k1 k2 k3 k5 "ValueError.__new__") ∧ PySem.HandSPX.refsVE bm = true := by
  unfold oexT at h
  split at h
  · rename_i t dd c l ho
    split at h
    · rename_i D m k0 k1 k2 k3 b k5 hm hs
      simp only [Bool.and_eq_true, decide_eq_true_eq, Bool.not_eq_true'] at h
      obtain ⟨⟨⟨⟨⟨rfl, rfl⟩, rfl⟩, hd⟩, hl⟩, hv⟩ := h
      obtain ⟨nm, bs, mro, ns, qn, hdi, sn, sub, ab, col, dl⟩ := c
      dsimp only at hm hd hl
      subst hm hd hl
      obtain ⟨l⟩ := l
      dsimp only at hs
      subst hs
      exact ⟨nm, qn, ns, bs, m, sn, sub, ab, col, dd, k0, k1, k2, k3, k5, ho, hv⟩
    · cases h
  · cases h
abbrev mI (K : PySem.W.Frag) (x : Str) : Addr := He.ma K (He.ga K x) "__init__"
def fX0 (x : Str) : Fk := fun K => fGlo x K && fExc x K
def fXF (x f : Str) : Fk := fun K => fGlo x K && oexT K (He.ga K x) && He.eqO (PySem.W.findIn K (.ref (He.ga K x)) "__setattr__") (some (some (.builtin "object.__setattr__"))) && decide (PySem.W.subIn K (.ref (He.ga K x)) (.type "BaseException") = some true) &&
  decide (PySem.W.typeIn K (.ref (He.ga K x)) = some (.type "type")) && PySem.W.keepIn K (.ref (He.ga K x)) && He.eqO (PySem.W.findIn K (.ref (He.ga K x)) f) (some none) && He.eqO (PySem.W.findIn K (.ref (He.ga K x)) "__init__") (some (some (.ref (mI K x)))) &&
  decide (PySem.W.typeIn K (.ref (mI K x)) = some (.type "function")) && xfB K (He.ga K x)
def fXi (x : Str) : Fk := fun K => (PySem.W.clsIn K (He.ga K x)).isSome && He.eqO (PySem.W.findIn K (.ref (He.ga K x)) "__getattribute__") (some (some (.builtin "BaseException.__getattribute__"))) && He.eqO (PySem.W.findIn K (.ref (He.ga K x)) "__getattr__") (some none) &&
  decide (PySem.W.subIn K (.ref (He.ga K x)) (.type "BaseException") = some true) && He.eqO (PySem.W.findIn K (.ref (He.ga K x)) "__class__") (some (some (.builtin "object.__class__"))) && He.eqO (PySem.W.specialIn K (.builtin "object.__class__") "__get__") (some (some (.builtin "getset_descriptor.__get__"))) &&
  decide (PySem.W.takesIn K (.builtin "object.__class__") = some true) && decide (PySem.W.mroIn K (He.ga K x) (.type "object") = some true)
def fExm (x y : Str) (b : Bool) : Fk := fun K => decide (PySem.W.exmOne K (.ref (He.ga K x)) (.ref (He.ga K y)) = some b)
def fKit (x y : Str) (b : Bool) : Fk := fun K => decide (PySem.W.kitOne K (.ref (He.ga K x)) (.ref (He.ga K y)) = some b)
def fKitT (x : Str) (t : String) (b : Bool) : Fk := fun K => decide (PySem.W.kitOne K (.ref (He.ga K x)) (.type t) = some b)
section
variable {K : PySem.W.Frag} {h : Heap} {mg : Str → Option Value} {x y f : Str} {b : Bool}
theorem fX0_ok (X : K.In h) (G : h.Ns mainGlobals mg) (c : fX0 x K = true) : Xc0 K mg x (He.ga K x) := by
  obtain ⟨c1, c2⟩ := Bool.and_eq_true_iff.mp c
  obtain ⟨h1, h2, h3, h4⟩ := He.exc_ok c2
  exact ⟨fGlo_ok X G c1, h1, h2, h3, h4⟩
theorem fXF_ok {P : Program} {w : World} {base : Heap} {dd : He.DefD} {fd : FuncData} {sn xn : Str} {p1 p2 p3 p4 : Pos} (X : K.In h) (G : h.Ns mainGlobals mg) (c : fXF x f K = true) (Fu : Df K dd (mI K x) fd) (S : FnScope [sn, xn] [sn, xn] dd.scope)
    (hb : Binds K fd [sn, xn] []) (hv : (visB dd.scope sn && visB dd.scope xn) = true) (hbody : dd.body = [.Assign [.Attribute (.Name sn p1) f p2] (.Name xn p3) p4]) : XcF P w K mg base x f (He.ga K x) ∧ XfC K (He.ga K x) := by
  unfold fXF at c
  simp only [Bool.and_eq_true, decide_eq_true_eq] at c
  obtain ⟨⟨⟨⟨⟨⟨⟨⟨⟨c1, c2⟩, c3⟩, c4⟩, c5⟩, c6⟩, c7⟩, c8⟩, c9⟩, c10⟩ := c
  exact ⟨⟨fGlo_ok X G c1, ⟨oexT_ok c2, He.eqO_ok c3, c4, c5, c6⟩, He.eqO_ok c7, mI K x, fd, [sn, xn], He.eqO_ok c8, c9, init_ok Fu S hv hbody, hb⟩, xfB_ok c10⟩
theorem fXi_ok (c : fXi x K = true) : Xis K (He.ga K x) := by
  unfold fXi at c
  simp only [Bool.and_eq_true, decide_eq_true_eq] at c
  obtain ⟨⟨⟨⟨⟨⟨⟨c1, c2⟩, c3⟩, c4⟩, c5⟩, c6⟩, c7⟩, c8⟩ := c
  exact ⟨c1, He.eqO_ok c2, He.eqO_ok c3, c4, He.eqO_ok c5, He.eqO_ok c6, c7, c8⟩
theorem fExm_ok (c : fExm x y b K = true) : PySem.W.exmOne K (.ref (He.ga K x)) (.ref (He.ga K y)) = some b := of_decide_eq_true c
theorem fKit_ok (c : fKit x y b K = true) : PySem.W.kitOne K (.ref (He.ga K x)) (.ref (He.ga K y)) = some b := of_decide_eq_true c
theorem fKitT_ok {t : String} (c : fKitT x t b K = true) : PySem.W.kitOne K (.ref (He.ga K x)) (.type t) = some b := of_decide_eq_true c
end
end Mo

set_option Elab.async false
set_option linter.all false
set_option maxRecDepth 100000
set_option maxHeartbeats 4000000
set_option autoImplicit false
/-! Objects let go; names unpacked from a list; try as a block. -/
namespace Mo
open PySem PySem.Spec PyProof.Rows L2
section
variable {X : Cx} {R : RX} {F : De} {ro : Ro} {om : Om} {e : Expr} {pos : Pos} {rest sts : List Stmt} {x : D}
/-- an object is spoken of no more -/
theorem ws_drop (a : Addr) (h : ws X F ro (dels om a) sts) : ws X F ro om sts := .mk fun om0 H0 t σ H o => h om0 H0 t σ H (o.to o.store.del Stable.del)
theorem dels_new {om : Om} {p q : Addr} {o u : DO} (h : om p = none) (ne : p ≠ q) : dels (ups (ups om p o) q u) p = ups om q u := by
  funext b
  by_cases e : b = p
  · subst e
    rw [dels_same, ups_ne ne, h]
  · rw [dels_ne e]
    by_cases k : b = q
    · subst k
      rw [ups_same, ups_same]
    · rw [ups_ne k, ups_ne k, ups_ne e]
/-- return e, an object being spoken of no more -/
theorem ret_d (a : Addr) {d : D} (h : wv X ro om e d) (q : F.rt d (dels om a)) : ws X F ro om (.Return (some e) pos :: rest) := ws_cons <| .mk fun om0 H0 t σ H o => by
  refine pS_of (ps_ret pE_pe) (v_run h t o fun v H1 o1 r => ?_)
  exact ⟨d, _, q, o1.store.del, o1.stab.trans Stable.del, r.mono Stable.del⟩
/-- a slot is let go -/
theorem ws_weak {ro' : Ro} (hl : ro'.length = ro.length) (k : ∀ (i : Nat) (d : D), ro'[i]? = some (some d) → ro[i]? = some (some d)) (h : ws X F ro' om sts) : ws X F ro om sts := .mk fun om0 H0 t σ H o => h om0 H0 t σ H (o.weak hl k)
theorem s_unL {es' : List Expr} {k : Nat} {tpos : Pos} {t : TGs} {n : Nat} {G : List D → Ro → Ro} (h : we X F.ex ro om e fun d om1 => ∃ ds, Lr om1 d ds ∧ ds.length = n ∧ F.nx (G ds ro) om1) (hc : X.calm = true) (hg : PGs X es' t)
    (hG : ∀ (om0 : Om) (H0 : Hp) (om1 : Om) (H1 : Hp) (σ : L2.St) (ds : List D) (xs : List V) (Q : L2.St → Hp → Prop), ds.length = n → Ok X.K om0 H0 om1 H1 σ ro → RepL X.K om1 H1 ds xs → (∀ σ', Ok X.K om0 H0 om1 H1 σ' (G ds ro) → Q σ' H1) → t xs σ H1 Q)
    (hn : (assignEach es' X.env).length = n := by rfl) (hst : (assignEach es' X.env).findIdx? (·.1) = none := by rfl) (hs : swapsWithSole [.Tuple es' k tpos] e pos.line X.env = pure false := by rfl) (hw : swappedStores [.Tuple es' k tpos] e X.env = pure none := by rfl)
    (h1 : (assignEach [.Tuple es' k tpos] X.env).map (·.2) = [assign (.Tuple es' k tpos) X.env] := by rfl) : w1 X F ro om (.Assign [.Tuple es' k tpos] e pos) := .mk fun om0 H0 tk σ H o => by
  refine pS_of (ps_asg pE_pe (pg_lst hc hg hn hst) hs hw h1) ?_
  refine pE_mono (h om0 H0 tk σ H o) fun v H1 ⟨d, om1, ⟨ds, l, hl, q⟩, o1, r⟩ => ?_
  obtain ⟨p, xs, rfl, h2, r2⟩ := l.rep o1.store r
  exact ⟨p, xs, rfl, SqL.of h2, by rw [← r2.length]; exact hl, hG om0 H0 om1 H1 σ ds xs _ hl o1 r2 fun σ' o' => ⟨_, _, q, o'⟩⟩
/-- a, b = e, from a list or a tuple -/
theorem Lo.unL2 {i j : Nat} {xn yn : Str} {p q tp : Pos} {k : Nat} (l : Lo X i xn) (m : Lo X j yn) (nd : X.N.Nodup) (hc : X.calm = true) (h : we X F.ex ro om e fun d om1 => ∃ d1 d2, Lr om1 d [d1, d2] ∧ ws X F ((ro.set i (some d1)).set j (some d2)) om1 rest)
    (hn : (assignEach [.Name xn p, .Name yn q] X.env).length = 2 := by rfl) (hst : (assignEach [.Name xn p, .Name yn q] X.env).findIdx? (·.1) = none := by rfl) (hs : swapsWithSole [.Tuple [.Name xn p, .Name yn q] k tp] e pos.line X.env = pure false := by rfl)
    (hw : swappedStores [.Tuple [.Name xn p, .Name yn q] k tp] e X.env = pure none := by rfl) (h1 : (assignEach [.Tuple [.Name xn p, .Name yn q] k tp] X.env).map (·.2) = [assign (.Tuple [.Name xn p, .Name yn q] k tp) X.env] := by rfl) :
    ws X F ro om (.Assign [.Tuple [.Name xn p, .Name yn q] k tp] e pos :: rest) := ws_cons (s_unL (G := G2 i j) (we_mono h fun d om' ⟨d1, d2, a, b⟩ => ⟨[d1, d2], a, rfl, b⟩) hc (pgs_cons (l.pg nd) (pgs_cons (m.pg nd) pgs_nil)) (fun _ _ _ _ _ _ _ _ hl o r q => g2_ok i j hl o r q) hn hst hs hw h1)
theorem Lo.un2 {i j : Nat} {xn yn : Str} {p q tp : Pos} {k : Nat} (l : Lo X i xn) (m : Lo X j yn) (nd : X.N.Nodup) (hc : X.calm = true) (h : we X F.ex ro om e fun d om1 => ∃ d1 d2, d = .tup [d1, d2] ∧ ws X F ((ro.set i (some d1)).set j (some d2)) om1 rest)
    (hn : (assignEach [.Name xn p, .Name yn q] X.env).length = 2 := by rfl) (hst : (assignEach [.Name xn p, .Name yn q] X.env).findIdx? (·.1) = none := by rfl) (hs : swapsWithSole [.Tuple [.Name xn p, .Name yn q] k tp] e pos.line X.env = pure false := by rfl)
    (hw : swappedStores [.Tuple [.Name xn p, .Name yn q] k tp] e X.env = pure none := by rfl) (h1 : (assignEach [.Tuple [.Name xn p, .Name yn q] k tp] X.env).map (·.2) = [assign (.Tuple [.Name xn p, .Name yn q] k tp) X.env] := by rfl) :
    ws X F ro om (.Assign [.Tuple [.Name xn p, .Name yn q] k tp] e pos :: rest) := ws_cons (s_unT (G := G2 i j) (we_mono h fun d om' ⟨d1, d2, a, b⟩ => ⟨[d1, d2], a, rfl, b⟩) hc (pgs_cons (l.pg nd) (pgs_cons (m.pg nd) pgs_nil)) (fun _ _ _ _ _ _ _ _ hl o r q => g2_ok i j hl o r q) hn hst hs hw h1)
/-- try: .. as a block's head -/
theorem st_try {body : List Stmt} {h₀ : ExceptHandler} {hds : List ExceptHandler} (stk : X.stack = X.env :: X.outer) (frm : X.env.frame = some X.env.locals) (nd : X.N.Nodup)
    (hb : ∀ (pn : List (Addr × Obj)) (xe : Value → Shared → Prop), PassesOwn (model X.prog X.w) X.A X.env xe → ws (X.tr pn xe) { F with nx := fun ro' om' => ws X F ro' om' rest, ex := hEx X { F with nx := fun ro' om' => ws X F ro' om' rest } (h₀ :: hds) } ro om body) : ws X F ro om (.Try body (h₀ :: hds) [] [] pos :: rest) := ws_cons (w_try stk frm nd hb)
/-- a call whose exception is told -/
theorem st_callX {xn : Str} {k n : Nat} {G : Fs} {p cp : Pos} {a : Expr} {es : List Expr} {ds : List D} (Dk : DefOk X.prog X.w X.K X.mg X.base xn k n G) (hr : Room k X.A) (h : wav X ro om (a :: es) ds) (hl : ds.length = n) (g : G ds om (fun _ om' => ws X F ro om' rest) (fun c fs om' => F.ex c fs ro om'))
    (hg : Gl X xn) (hdb : (xn == ("__debug__" : Str)) = false := by decide) (he : starEach (a :: es) X.env = (false, eval a X.env) :: starEach es X.env := by rfl) (hpl : (backTo cp (starEach es X.env)).any (·.1) = false := by rfl)
    (hs : swapsWith (.Call (.Name xn p) (a :: es) [] cp) none pos.line X.env = pure false := by rfl) : ws X F ro om (.Expr (.Call (.Name xn p) (a :: es) [] cp) pos :: rest) := st_expr (e_call Dk hr (h _ _ ⟨hl, g⟩) hg hdb he hpl) hs
/-- name = f(..), whose exception is told -/
theorem Lo.callX {i : Nat} {yn xn : Str} {k n : Nat} {G : Fs} {p cp pos' : Pos} {a : Expr} {es : List Expr} {ds : List D} (l : Lo X i yn) (nd : X.N.Nodup) (Dk : DefOk X.prog X.w X.K X.mg X.base xn k n G) (hr : Room k X.A) (h : wav X ro om (a :: es) ds) (hl : ds.length = n)
    (g : G ds om (fun d om' => ws X F (ro.set i (some d)) om' rest) (fun c fs om' => F.ex c fs ro om'))
    (hg : Gl X xn) (hdb : (xn == ("__debug__" : Str)) = false := by decide) (he : starEach (a :: es) X.env = (false, eval a X.env) :: starEach es X.env := by rfl) (hpl : (backTo cp (starEach es X.env)).any (·.1) = false := by rfl)
    (hs : swapsWith (.Call (.Name xn p) (a :: es) [] cp) (some (.Name yn pos')) pos.line X.env = pure false := by rfl) : ws X F ro om (.Assign [.Name yn pos'] (.Call (.Name xn p) (a :: es) [] cp) pos :: rest) := ws_cons (l.asg nd (e_call Dk hr (h _ _ ⟨hl, g⟩) hg hdb he hpl) hs)
end
end Mo

set_option Elab.async false
set_option linter.all false
set_option maxRecDepth 100000
set_option maxHeartbeats 4000000
set_option autoImplicit false
/-! isinstance over a tuple of classes; appends under a test; returns that let an object go. -/
namespace Mo
open PySem PySem.Spec PyProof.Rows L2
section
variable {X : Cx} {R : RX} {F : De} {ro : Ro} {om : Om} {e c : Expr} {pos : Pos} {rest sts : List Stmt} {x d : D}
/-- classes by their names -/
inductive Kls (X : Cx) : List Expr → List Value → Prop
  | nil : Kls X [] []
  | cons {n : Str} {p : Pos} {u : Value} {es : List Expr} {us : List Value} (k : Kl X n u) (g : Gl X n) (r : Kls X es us) : Kls X (.Name n p :: es) (u :: us)
theorem Kls.pa {es : List Expr} {us : List Value} (k : Kls X es us) : ∃ (cs : List V) (t : TA), cs.length = es.length ∧ Paired ClsV cs us ∧ PA X es t ∧ ∀ σ H Q, Q cs H → t σ H Q := by
  induction k with
  | nil => exact ⟨[], _, rfl, .nil, pa_nil, fun _ _ _ q => q⟩
  | cons k g r ih =>
    obtain ⟨cs, t, hl, h1, h2, h3⟩ := ih
    obtain ⟨v, cv, pe⟩ := k.pe g
    exact ⟨v :: cs, _, congrArg (· + 1) hl, .cons cv h1, pa_cons pe h2 rfl, fun σ H Q q => h3 σ H (fun vs H' => Q (v :: vs) H') q⟩
theorem v_isXT {p C : Addr} {fs : List (Str × D)} {es : List Expr} {p1 p2 : Pos} {j : Nat} {us : List Value} {k : Bool} (h : wv X ro om e (.obj p)) (hp : om p = some (.exc C fs)) (T : Xis X.K C) (kl : Kls X es us) (hk : PySem.W.kitAny X.K (.ref C) us = some k) (B : Bi X "isinstance" (.builtin "isinstance"))
    (hg : Gl X "isinstance") (hl : es.length ≤ 100) (he : starEach (e :: [.Tuple es j p2]) X.env = (false, eval e X.env) :: starEach [.Tuple es j p2] X.env := by rfl) (he2 : starEach [.Tuple es j p2] X.env = (false, eval (.Tuple es j p2) X.env) :: starEach [] X.env := by rfl)
    (hpl : (backTo pos (starEach [.Tuple es j p2] X.env)).any (·.1) = false := by rfl) : wv X ro om (.Call (.Name "isinstance" p1) [e, .Tuple es j p2] [] pos) (.bl k) := .mk fun R Q q => .mk fun om0 H0 t' σ H o => by
  obtain ⟨cs, t, hcl, hc, pa, run⟩ := kl.pa
  cases B with
  | fn id hm hv hn hd =>
    refine pE_of (pe_callB call_isXT hg hm hv (pa_cons pE_pe (pa_cons (pe_tup pa) pa_nil he2) he) hn hd he hpl) ?_
    refine pE_mono (h R (fun d om' => d = .obj p ∧ om' = om) ⟨rfl, rfl⟩ om0 H0 t' σ H o) fun w H1 ⟨d, om1, ⟨e1, e2⟩, o1, r1⟩ => ?_
    subst e1 e2
    cases r1
    refine run _ _ _ ⟨by rw [hcl, sizeLine_eq]; omega, fun tp hn => ?_⟩
    have st : Stable om1 H1 om1 (upd H1 tp (.tup cs)) := Stable.new hn
    have o2 := o1.to (o1.store.new hn (u := .tup cs)) st
    obtain ⟨dd, h1, x1⟩ := o2.store _ _ hp
    exact ⟨p, C, tp, dd, cs, us, k, rfl, h1, exc_dd x1, upd_same, hc, T, hk, _, _, q, o2, rfl⟩
theorem ups_id {om : Om} {p : Addr} {o : DO} (h : om p = some o) : ups om p o = om := by
  funext b
  by_cases e : b = p
  · subst e
    rw [ups_same, h]
  · rw [ups_ne e]
/-- if c: p.append(e) -/
theorem st_ifApp {o : Expr} {apos cpos p2 : Pos} {p : Addr} {ds : List D} {k : Bool} (h : wtv X ro om c k) (ho : wv X ro om o (.obj p)) (he : k = true → wv X ro om e d) (hp : om p = some (.lst ds)) (hz : ds.length < sizeLine) (nx : ws X F ro (ups om p (.lst (ds ++ if k = true then [d] else []))) rest)
    (hbase : attributeBase o "append" X.env (eval o X.env) = eval o X.env := by rfl)
    (hfew : ((backTo cpos (starEach [e] X.env)).all (fun x => !x.1) && (backToKw cpos (keywordEach [] X.env)).all (fun x => x.1.isSome) && decide ([e].length + ([] : List Keyword).length + (if ([] : List Keyword).isEmpty then 0 else 1) < 30)) = true := by rfl)
    (hline : (apos.endLine == cpos.line) = true := by rfl) (hs : starEach [e] X.env = (false, eval e X.env) :: starEach [] X.env := by rfl) (hplain : (backTo cpos (starEach [] X.env)).any (·.1) = false := by rfl)
    (hsw : swapsWith (.Call (.Attribute o "append" apos) [e] [] cpos) none p2.line X.env = pure false := by rfl) : ws X F ro om (.If c [.Expr (.Call (.Attribute o "append" apos) [e] [] cpos) p2] [] pos :: rest) := by
  refine st_if h (fun hk => ?_) (fun hk => ws_nil ?_)
  · refine st_append ho (he hk) hp hz (ws_nil ?_) hbase hfew hline hs hplain hsw
    rw [if_pos hk] at nx
    exact nx
  · subst hk
    rw [if_neg (by decide), List.append_nil, ups_id hp] at nx
    exact nx
/-- an exception may let an object go -/
theorem ws_exd (h : ws X { F with ex := fun c fs ro om => ∃ p, F.ex c fs ro (dels om p) } ro om sts) : ws X F ro om sts := .mk fun om0 H0 t σ H o =>
  h om0 H0 (Takes.imp t fun c d σ H ⟨fs, ro, om, ⟨p, r⟩, o, x⟩ => ⟨fs, ro, dels om p, r, o.to o.store.del Stable.del, x.mono Stable.del⟩) σ H o
/-- return e, an object being spoken of no more -/
theorem ret_ed (a : Addr) (h : we X F.ex ro om e fun d om' => F.rt d (dels om' a)) : ws X F ro om (.Return (some e) pos :: rest) := ws_cons <| .mk fun om0 H0 t σ H o => by
  refine pS_of (ps_ret pE_pe) (pE_mono (h om0 H0 t σ H o) fun v H1 ⟨d, om1, q, o1, r⟩ => ?_)
  exact ⟨d, _, q, o1.store.del, o1.stab.trans Stable.del, r.mono Stable.del⟩
theorem kind_of {n : Str} {sc : Scope} (h : X.env.scope = sc) (k : (sc.names.lookup n == some .local) = true) : X.env.kindOf n = some .local := by
  show X.env.scope.names.lookup n = _
  rw [h]
  exact beq_iff_eq.mp k
/-- except C as n: what the clause takes -/
theorem hx_as {x n : Str} {np p' : Pos} {b : Stmt} {bs : List Stmt} {r : List ExceptHandler} {C : Addr} {C' : Addr} {fs : List (Str × D)} (i : Nat) (hC : X.mg x = some (.ref C')) (g : Gl X x) (hi : X.N[i]? = some n) (hk : X.env.kindOf n = some .local) (em : PySem.W.exmOne X.K (.ref C) (.ref C') = some true)
    (h : ∀ a pn, om a = none → ws (X.suite a pn) (F.gone i) (ro.set i (some (.obj a))) (ups om a (.exc C fs)) (b :: bs)) (hd : (x == ("__debug__" : Str)) = false := by decide) : hEx X F (.ExceptHandler (some (.Name x np)) (some n) (b :: bs) p' :: r) (.ref C) fs ro om :=
  ⟨.ref C', true, i, ⟨g, hd, .inl hC⟩, hi, hk, em, fun _ => ⟨C, rfl, h⟩, fun z => by cases z⟩
theorem hx_on {x : Str} {np p' : Pos} {b : Stmt} {bs : List Stmt} {r : List ExceptHandler} {C : Addr} {C' : Addr} {fs : List (Str × D)} (hC : X.mg x = some (.ref C')) (g : Gl X x) (em : PySem.W.exmOne X.K (.ref C) (.ref C') = some true)
    (h : ∀ a pn, om a = none → ws (X.suite a pn) F.calm ro (ups om a (.exc C fs)) (b :: bs)) (hd : (x == ("__debug__" : Str)) = false := by decide) : hEx X F (.ExceptHandler (some (.Name x np)) none (b :: bs) p' :: r) (.ref C) fs ro om :=
  ⟨.ref C', true, ⟨g, hd, .inl hC⟩, em, fun _ => ⟨C, rfl, h⟩, fun z => by cases z⟩
theorem hx_no {x : Str} {np p' : Pos} {b : Stmt} {bs : List Stmt} {r : List ExceptHandler} {C : Addr} {C' : Addr} {fs : List (Str × D)} (hC : X.mg x = some (.ref C')) (g : Gl X x) (em : PySem.W.exmOne X.K (.ref C) (.ref C') = some false)
    (h : hEx X F r (.ref C) fs ro om) (hd : (x == ("__debug__" : Str)) = false := by decide) : hEx X F (.ExceptHandler (some (.Name x np)) none (b :: bs) p' :: r) (.ref C) fs ro om :=
  ⟨.ref C', false, ⟨g, hd, .inl hC⟩, em, (fun z => by cases z), fun _ => h⟩
theorem hx_noA {x n : Str} {np p' : Pos} {b : Stmt} {bs : List Stmt} {r : List ExceptHandler} {C : Addr} {C' : Addr} {fs : List (Str × D)} (i : Nat) (hC : X.mg x = some (.ref C')) (g : Gl X x) (hi : X.N[i]? = some n) (hk : X.env.kindOf n = some .local) (em : PySem.W.exmOne X.K (.ref C) (.ref C') = some false)
    (h : hEx X F r (.ref C) fs ro om) (hd : (x == ("__debug__" : Str)) = false := by decide) : hEx X F (.ExceptHandler (some (.Name x np)) (some n) (b :: bs) p' :: r) (.ref C) fs ro om :=
  ⟨.ref C', false, i, ⟨g, hd, .inl hC⟩, hi, hk, em, (fun z => by cases z), fun _ => h⟩
/-- what a name's class is, in an except clause -/
theorem names_of {n : Str} {C : Addr} (h : X.mg n = some (.ref C)) (g : Gl X n) (hd : (n == ("__debug__" : Str)) = false := by decide) : Names X n (.ref C) := ⟨g, hd, .inl h⟩
end
end Mo

set_option Elab.async false
set_option linter.all false
set_option maxRecDepth 100000
set_option maxHeartbeats 4000000
set_option autoImplicit false
/-! Data as PyData; texts drawn by the laws. -/
namespace Mo
open PySem PySem.Spec PyProof.Rows L2
/-! ### what data reads as -/
inductive PdL (om : Om) : List D → List PyData → Prop
  | nil : PdL om [] []
  | cons {d : D} {ds : List D} {p : PyData} {ps : List PyData} (h : Pd om d p) (t : PdL om ds ps) : PdL om (d :: ds) (p :: ps)
theorem PdL.length {om : Om} {ds : List D} {ps : List PyData} (h : PdL om ds ps) : ds.length = ps.length := by
  induction h with
  | nil => rfl
  | cons _ _ ih => exact congrArg (· + 1) ih
theorem PdL.at {om : Om} {ds : List D} {ps : List PyData} (h : PdL om ds ps) : ∀ (i : Nat) (d : D) (p : PyData), ds[i]? = some d → ps[i]? = some p → Pd om d p := by
  induction h with
  | nil => intro i d p e; simp at e
  | cons h t ih =>
    intro i d p e1 e2
    cases i with
    | zero => cases e1; cases e2; exact h
    | succ i => exact ih i d p (by simpa using e1) (by simpa using e2)
theorem PdL.map {om : Om} {α : Type} {f : α → D} {g : α → PyData} (h : ∀ x, Pd om (f x) (g x)) : ∀ l : List α, PdL om (l.map f) (l.map g)
  | [] => .nil
  | x :: l => .cons (h x) (PdL.map h l)
theorem PdL.mapM {om : Om} {α : Type} {f : α → D} {g : α → PyData} : ∀ l : List α, (∀ x ∈ l, Pd om (f x) (g x)) → PdL om (l.map f) (l.map g)
  | [], _ => .nil
  | x :: l, h => .cons (h x (List.mem_cons_self)) (PdL.mapM l fun y hy => h y (List.mem_cons_of_mem _ hy))
theorem PdL.app {om : Om} {ds es : List D} {ps qs : List PyData} (h : PdL om ds ps) (k : PdL om es qs) : PdL om (ds ++ es) (ps ++ qs) := by
  induction h with
  | nil => exact k
  | cons h t ih => exact .cons h ih
theorem Pd.l {om : Om} {ds : List D} {ps : List PyData} (h : PdL om ds ps) : Pd om (.lst ds) (.list ps) := .lst h.length h.at
theorem Pd.t {om : Om} {ds : List D} {ps : List PyData} (h : PdL om ds ps) : Pd om (.tup ds) (.tuple ps) := .tup h.length h.at
theorem Pd.o {om : Om} {a : Addr} {ds : List D} {ps : List PyData} (e : om a = some (.lst ds)) (h : PdL om ds ps) : Pd om (.obj a) (.list ps) := .obj e h.length h.at
theorem PdL.strs {om : Om} (l : List Str) : PdL om (l.map .str) (l.map .str) := PdL.map (fun x => Pd.str x) l
theorem PdL.ints {om : Om} (l : List Int) : PdL om (l.map .int) (l.map .int) := PdL.map (fun x => Pd.int x) l
/-- no dict, at most n deep -/
def pokn (n : Nat) (p : PyData) : Prop := p.plain = true ∧ p.depth ≤ n
theorem pok_of {p : PyData} (h : pokn 9 p) : pok p := ⟨h.1, Nat.le_trans h.2 (by decide)⟩
theorem pokn_none {n : Nat} : pokn n .none := ⟨rfl, Nat.zero_le _⟩
theorem pokn_bool {n : Nat} {b : Bool} : pokn n (.bool b) := ⟨rfl, Nat.zero_le _⟩
theorem pokn_int {n : Nat} {i : Int} : pokn n (.int i) := ⟨rfl, Nat.zero_le _⟩
theorem pokn_str {n : Nat} {s : Str} : pokn n (.str s) := ⟨rfl, Nat.zero_le _⟩
theorem pokn_all {n : Nat} : ∀ {ps : List PyData}, (∀ p ∈ ps, pokn n p) → PyData.plainAll ps = true ∧ PyData.depthAll ps ≤ n
  | [], _ => ⟨rfl, Nat.zero_le _⟩
  | p :: ps, h => by
    obtain ⟨h1, h2⟩ := h p List.mem_cons_self
    obtain ⟨h3, h4⟩ := pokn_all (ps := ps) fun q hq => h q (List.mem_cons_of_mem _ hq)
    refine ⟨by unfold PyData.plainAll; rw [h1, h3]; rfl, ?_⟩
    unfold PyData.depthAll
    exact Nat.max_le.mpr ⟨h2, h4⟩
theorem pokn_list {n : Nat} {ps : List PyData} (h : ∀ p ∈ ps, pokn n p) : pokn (n + 1) (.list ps) := by
  obtain ⟨h1, h2⟩ := pokn_all h
  exact ⟨h1, by unfold PyData.depth; omega⟩
theorem pokn_tuple {n : Nat} {ps : List PyData} (h : ∀ p ∈ ps, pokn n p) : pokn (n + 1) (.tuple ps) := by
  obtain ⟨h1, h2⟩ := pokn_all h
  exact ⟨h1, by unfold PyData.depth; omega⟩
theorem all_nil {n : Nat} : ∀ p ∈ ([] : List PyData), pokn n p := fun _ h => by cases h
theorem all_cons {n : Nat} {p : PyData} {ps : List PyData} (h : pokn n p) (k : ∀ q ∈ ps, pokn n q) : ∀ q ∈ p :: ps, pokn n q := fun q hq => by
  rcases List.mem_cons.mp hq with e | e
  · rw [e]; exact h
  · exact k q e
theorem all_map {n : Nat} {α : Type} {f : α → PyData} (h : ∀ x, pokn n (f x)) (l : List α) : ∀ p ∈ l.map f, pokn n p := fun p hp => by
  obtain ⟨x, _, rfl⟩ := List.mem_map.mp hp
  exact h x
theorem all_app {n : Nat} {ps qs : List PyData} (h : ∀ p ∈ ps, pokn n p) (k : ∀ p ∈ qs, pokn n p) : ∀ p ∈ ps ++ qs, pokn n p := fun p hp => (List.mem_append.mp hp).elim (h p) (k p)
/-! ### == of plain forms -/
theorem beqS {x y : Str} : (x == y) = decide (x = y) := by
  by_cases h : x = y
  · subst h; simp
  · rw [decide_eq_false h]; exact beq_eq_false_iff_ne.mpr h
theorem eqvAll_map {α : Type} [DecidableEq α] {f : α → PyData} (h : ∀ x y, PyData.eqv (f x) (f y) = decide (x = y)) : ∀ l m : List α, PyData.eqvAll (l.map f) (m.map f) = decide (l = m)
  | [], [] => by simp [PyData.eqvAll]
  | [], y :: m => by simp [PyData.eqvAll]
  | x :: l, [] => by simp [PyData.eqvAll]
  | x :: l, y :: m => by
    rw [List.map_cons, List.map_cons, PyData.eqvAll, h, eqvAll_map h l m]
    by_cases e : x = y
    · subst e
      by_cases e2 : l = m
      · subst e2; simp
      · rw [decide_eq_true rfl, decide_eq_false e2, decide_eq_false (show ¬ (x :: l = x :: m) from fun z => e2 (List.cons.inj z).2)]; rfl
    · rw [decide_eq_false e, decide_eq_false (show ¬ (x :: l = y :: m) from fun z => e (List.cons.inj z).1)]; rfl
theorem eqv_str {x y : Str} : PyData.eqv (.str x) (.str y) = decide (x = y) := by rw [PyData.eqv, beqS]
theorem eqv_int {x y : Int} : PyData.eqv (.int x) (.int y) = decide (x = y) := by rw [PyData.eqv, Bool.beq_eq_decide_eq]
theorem eqv_strs {l m : List Str} : PyData.eqv (.list (l.map .str)) (.list (m.map .str)) = decide (l = m) := by
  rw [PyData.eqv]
  exact eqvAll_map (fun x y => eqv_str) l m
theorem eqv_ints {l m : List Int} : PyData.eqv (.list (l.map .int)) (.list (m.map .int)) = decide (l = m) := by
  rw [PyData.eqv]
  exact eqvAll_map (fun x y => eqv_int) l m
theorem eqv_nn : PyData.eqv .none .none = true := by simp [PyData.eqv]
theorem eqv_self {p : PyData} (h : pok p) : PyData.eqv p p = true := SeqAt.eqv_refl_plain p h.1
/-! ### texts -/
abbrev chr1 (c : Nat) : Str := ⟨#[c]⟩
theorem len_app (x y : Str) : (x ++ y).length = x.length + y.length := by
  show (x.cps ++ y.cps).size = x.cps.size + y.cps.size
  exact Array.size_append
theorem tl_app (x y : Str) : TL.tl (x ++ y) = TL.tl x ++ TL.tl y := by
  show (x.cps ++ y.cps).toList = _
  exact Array.toList_append
theorem len_tl (x : Str) : x.length = (TL.tl x).length := by
  show x.cps.size = x.cps.toList.length
  rw [Array.length_toList]
/-- the signs of the drawn words -/
def sgS : Str := "abcdefghijklmnopqrstuvwxyzAZ09-#./"
def sg (i : Int) : Nat := sgS.cps.toList.getD i.toNat 0
theorem sg_len : sgS.cps.toList.length = 34 := by decide +kernel
theorem sg_at {i : Int} (h0 : 0 ≤ i) (h1 : i < 34) : atI sgS.cps.toList i = some (sg i) := by
  have hl := sg_len
  have e : i = (i.toNat : Int) := by omega
  have hi : i.toNat < sgS.cps.toList.length := by omega
  unfold sg
  rw [e, Int.toNat_natCast, List.getD_eq_getElem?_getD, List.getElem?_eq_getElem hi]
  exact atI_nat (List.getElem?_eq_getElem hi)
theorem sg_ok : sgS.cps.toList.all (fun c => decide (33 ≤ c ∧ c ≤ 126 ∧ c ≠ 37)) = true := by decide +kernel
theorem sg_in (i : Int) (h0 : 0 ≤ i) (h1 : i < 34) : 33 ≤ sg i ∧ sg i ≤ 126 ∧ sg i ≠ 37 := by
  have hl := sg_len
  have hi : i.toNat < sgS.cps.toList.length := by omega
  have := List.all_eq_true.mp sg_ok (sgS.cps.toList[i.toNat]) (List.getElem_mem hi)
  unfold sg
  rw [List.getD_eq_getElem?_getD, List.getElem?_eq_getElem hi]
  exact of_decide_eq_true this
theorem sg_slash (i : Int) (h0 : 0 ≤ i) (h1 : i < 33) : sg i ≠ 47 := by
  have : ∀ j : Fin 33, sgS.cps.toList.getD j.val 0 ≠ 47 := by decide +kernel
  exact this ⟨i.toNat, by omega⟩
/-- the drawn word, its first k signs and one -/
def wordF (c : Int) : Nat → Str
  | 0 => chr1 (sg (c % 33))
  | k + 1 => wordF c k ++ chr1 (sg (c / (99 * (1 + 33 * (k : Int))) % 34))
def wordN (c : Int) : Nat := (c / 33 % 3).toNat
def word (c : Int) : Str := wordF c (wordN c)
/-- a word of the document -/
structure IsWord (s : Str) : Prop where
  lo : 1 ≤ s.length
  hi : s.length ≤ 20
  sg : ∀ c ∈ TL.tl s, 33 ≤ c ∧ c ≤ 126 ∧ c ≠ 37
  no : s ≠ "/"
theorem wordF_len (c : Int) : ∀ k, (wordF c k).length = k + 1
  | 0 => rfl
  | k + 1 => by rw [wordF, len_app, wordF_len c k]; rfl
theorem wordF_sg (c : Int) : ∀ k, ∀ d ∈ TL.tl (wordF c k), 33 ≤ d ∧ d ≤ 126 ∧ d ≠ 37
  | 0, d, h => by
    have : d = sg (c % 33) := by simpa [wordF, TL.tl] using h
    subst this
    exact sg_in _ (by omega) (by omega)
  | k + 1, d, h => by
    rw [wordF, tl_app] at h
    rcases List.mem_append.mp h with h | h
    · exact wordF_sg c k d h
    · have : d = sg (c / (99 * (1 + 33 * (k : Int))) % 34) := by simpa [TL.tl] using h
      subst this
      exact sg_in _ (by omega) (by omega)
theorem wordF_hd (c : Int) : ∀ k, (TL.tl (wordF c k)).head? = some (sg (c % 33))
  | 0 => rfl
  | k + 1 => by rw [wordF, tl_app, List.head?_append, wordF_hd c k]; rfl
theorem wordN_le (c : Int) : wordN c ≤ 2 := by unfold wordN; omega
theorem word_ok (c : Int) : IsWord (word c) := by
  have h := wordN_le c
  refine ⟨by unfold word; rw [wordF_len]; omega, by unfold word; rw [wordF_len]; omega, wordF_sg c _, fun e => ?_⟩
  have h2 := wordF_hd c (wordN c)
  rw [show wordF c (wordN c) = "/" from e] at h2
  have h3 : (TL.tl ("/" : Str)).head? = some 47 := by decide +kernel
  rw [h3] at h2
  exact sg_slash (c % 33) (by omega) (by omega) (Option.some.inj h2).symm
theorem word_len (c : Int) : (word c).length ≤ 3 := by
  have h := wordN_le c
  unfold word
  rw [wordF_len]
  omega
/-- clauses: words with single blanks -/
abbrev sp : Str := " "
def clauseC (ws : List Str) : Str := Txt.join sp ws
def wordsC (s : Str) : List Str := if s = "" then [] else Txt.split s sp
theorem IsWord.blank {s : Str} (h : IsWord s) : 32 ∉ TL.tl s := fun m => by have := (h.sg 32 m).1; omega
theorem IsWord.ne {s : Str} (h : IsWord s) : TL.tl s ≠ [] := fun e => by
  have := h.lo
  rw [len_tl, e] at this
  exact absurd this (by decide)
theorem tl_sp : TL.tl sp = [32] := by decide +kernel
theorem tl_clause (ws : List Str) : TL.tl (clauseC ws) = TL.joinL [32] (ws.map TL.tl) := by
  unfold clauseC
  rw [TL.join_eq, TL.tl_join, tl_sp]
theorem joinL_ne {S : List Nat} : ∀ {ps : List (List Nat)}, ps ≠ [] → (∀ p ∈ ps, p ≠ []) → TL.joinL S ps ≠ []
  | [], h, _ => absurd rfl h
  | [p], _, k => k p List.mem_cons_self
  | p :: q :: r, _, k => fun e => k p List.mem_cons_self (List.append_eq_nil_iff.mp e).1
theorem str_ext {x y : Str} (h : TL.tl x = TL.tl y) : x = y := by
  cases x; cases y
  exact congrArg Str.mk (Array.toList_inj.mp h)
theorem tl_empty : TL.tl ("" : Str) = [] := by decide +kernel
theorem words_clause {ws : List Str} (h : ∀ w ∈ ws, IsWord w) : wordsC (clauseC ws) = ws := by
  unfold wordsC
  by_cases e : ws = []
  · subst e
    rw [if_pos (by apply str_ext; rw [tl_clause, tl_empty]; rfl)]
  · have ne : clauseC ws ≠ "" := fun z => by
      have z2 := congrArg TL.tl z
      rw [tl_clause, tl_empty] at z2
      refine joinL_ne (S := [32]) (ps := ws.map TL.tl) (by simpa using e) (fun p hp => ?_) z2
      obtain ⟨w, hw, rfl⟩ := List.mem_map.mp hp
      exact (h w hw).ne
    rw [if_neg ne]
    unfold clauseC
    exact TL.split_join (y := sp) (s := 32) (S := []) tl_sp (by decide +kernel) e fun p hp => (h p hp).blank
theorem joinL_len {S : List Nat} : ∀ ps : List (List Nat), (TL.joinL S ps).length ≤ (ps.map List.length).sum + ps.length * S.length
  | [] => Nat.zero_le _
  | [p] => by simp [TL.joinL]
  | p :: q :: r => by
    have ih := joinL_len (S := S) (q :: r)
    simp only [TL.joinL, List.length_append, List.map_cons, List.sum_cons, List.length_cons] at ih ⊢
    have : (r.length + 1 + 1) * S.length = (r.length + 1) * S.length + S.length := by rw [Nat.add_mul (r.length + 1), Nat.one_mul]
    omega
theorem clause_len (ws : List Str) : (clauseC ws).length ≤ (ws.map (·.length)).sum + ws.length := by
  rw [len_tl, tl_clause]
  refine Nat.le_trans (joinL_len _) ?_
  rw [List.map_map, List.length_map]
  have : (List.length ∘ TL.tl) = (fun s : Str => s.length) := by funext s; exact (len_tl s).symm
  rw [this]
  simp
theorem sum_le {α : Type} {f : α → Nat} {m : Nat} : ∀ {l : List α}, (∀ x ∈ l, f x ≤ m) → (l.map f).sum ≤ l.length * m
  | [], _ => Nat.zero_le _
  | x :: l, h => by
    have h1 := h x List.mem_cons_self
    have h2 := sum_le (f := f) (l := l) fun y hy => h y (List.mem_cons_of_mem _ hy)
    rw [List.map_cons, List.sum_cons, List.length_cons, Nat.add_mul, Nat.one_mul]
    omega
theorem sp_len : sp.length = 1 := by decide +kernel
theorem v_joinS {X : Cx} {ro : Ro} {om : Om} {e : Expr} {y : D} {ss : List Str} {j : Nat} {p2 apos cpos : Pos} (k : wv X ro om e y) (l : Lr om y (ss.map .str)) (hz : (ss.map (·.length)).sum + ss.length ≤ 16777216) (hs : starEach [e] X.env = (false, eval e X.env) :: starEach [] X.env)
    (hline : (apos.endLine == cpos.line) = true) (hfew : ((backTo cpos (starEach [e] X.env)).all (fun x => !x.1) && (backToKw cpos (keywordEach [] X.env)).all (fun x => x.1.isSome) && decide ([e].length + ([] : List Keyword).length + (if ([] : List Keyword).isEmpty then 0 else 1) < 30)) = true) :
    wv X ro om (.Call (.Attribute (.Constant (.str " ") j p2) "join" apos) [e] [] cpos) (.str (clauseC ss)) :=
  v_join v_str k l (by show _ + _ * sp.length ≤ _; rw [sp_len]; omega) rfl hfew hline hs rfl
end Mo

set_option Elab.async false
set_option linter.all false
set_option maxRecDepth 100000
set_option maxHeartbeats 4000000
set_option autoImplicit false
/-! Edits of lists, plainly. -/
namespace Mo
open PySem PySem.Spec PyProof.Rows L2
inductive Ed where
  | put (a : Int) (s : Str) | cut (a : Int) | turn (a : Int) (s : Str)
deriving DecidableEq
namespace Ed
def d : Ed → D
  | put a s => .tup [.str "put", .int a, .str s]
  | cut a => .tup [.str "cut", .int a]
  | turn a s => .tup [.str "turn", .int a, .str s]
def p : Ed → PyData
  | put a s => .tuple [.str "put", .int a, .str s]
  | cut a => .tuple [.str "cut", .int a]
  | turn a s => .tuple [.str "turn", .int a, .str s]
def at_ : Ed → Int
  | put a _ => a
  | cut a => a
  | turn a _ => a
def fits (n : Nat) : Ed → Bool
  | put a _ => decide (0 ≤ a) && decide (a ≤ n)
  | cut a => decide (0 ≤ a) && decide (a < n)
  | turn a _ => decide (0 ≤ a) && decide (a < n)
def laid (zs : List Str) : Ed → List Str
  | put a s => zs.take a.toNat ++ [s] ++ zs.drop a.toNat
  | cut a => zs.take a.toNat ++ zs.drop (a.toNat + 1)
  | turn a s => zs.take a.toNat ++ [s] ++ zs.drop (a.toNat + 1)
def back (zs : List Str) : Ed → Ed
  | put a _ => cut a
  | cut a => put a (zs.getD a.toNat "")
  | turn a _ => turn a (zs.getD a.toNat "")
theorem pd {om : Om} : ∀ e : Ed, Pd om e.d e.p
  | put _ _ => Pd.t (PdL.cons (Pd.str _) (PdL.cons (Pd.int _) (PdL.cons (Pd.str _) PdL.nil)))
  | cut _ => Pd.t (PdL.cons (Pd.str _) (PdL.cons (Pd.int _) PdL.nil))
  | turn _ _ => Pd.t (PdL.cons (Pd.str _) (PdL.cons (Pd.int _) (PdL.cons (Pd.str _) PdL.nil)))
theorem pk {n : Nat} : ∀ e : Ed, pokn (n + 1) e.p
  | put _ _ => pokn_tuple (all_cons pokn_str (all_cons pokn_int (all_cons pokn_str all_nil)))
  | cut _ => pokn_tuple (all_cons pokn_str (all_cons pokn_int all_nil))
  | turn _ _ => pokn_tuple (all_cons pokn_str (all_cons pokn_int (all_cons pokn_str all_nil)))
theorem fits_at {n : Nat} : ∀ {e : Ed}, fits n e = true → 0 ≤ e.at_ ∧ e.at_.toNat ≤ n
  | put a s, h => by
    simp only [fits, Bool.and_eq_true, decide_eq_true_eq] at h
    exact ⟨h.1, by show a.toNat ≤ n; omega⟩
  | cut a, h => by
    simp only [fits, Bool.and_eq_true, decide_eq_true_eq] at h
    exact ⟨h.1, by show a.toNat ≤ n; omega⟩
  | turn a s, h => by
    simp only [fits, Bool.and_eq_true, decide_eq_true_eq] at h
    exact ⟨h.1, by show a.toNat ≤ n; omega⟩
theorem laid_len {zs : List Str} {e : Ed} : (laid zs e).length ≤ zs.length + 1 := by
  cases e <;> simp only [laid, List.length_append, List.length_take, List.length_drop, List.length_cons, List.length_nil] <;> omega
theorem back_fits {zs : List Str} : ∀ {e : Ed}, fits zs.length e = true → fits (laid zs e).length (back zs e) = true
  | put a s, h => by
    simp only [fits, Bool.and_eq_true, decide_eq_true_eq] at h
    simp only [fits, back, laid, Bool.and_eq_true, decide_eq_true_eq, List.length_append, List.length_take, List.length_drop, List.length_cons, List.length_nil]
    omega
  | cut a, h => by
    simp only [fits, Bool.and_eq_true, decide_eq_true_eq] at h
    simp only [fits, back, laid, Bool.and_eq_true, decide_eq_true_eq, List.length_append, List.length_take, List.length_drop]
    omega
  | turn a s, h => by
    simp only [fits, Bool.and_eq_true, decide_eq_true_eq] at h
    simp only [fits, back, laid, Bool.and_eq_true, decide_eq_true_eq, List.length_append, List.length_take, List.length_drop, List.length_cons, List.length_nil]
    omega
theorem split {zs : List Str} {n : Nat} (h : n < zs.length) : zs = zs.take n ++ [zs.getD n ""] ++ zs.drop (n + 1) := by
  have e : zs.getD n "" = zs[n] := by rw [List.getD_eq_getElem?_getD, List.getElem?_eq_getElem h]; rfl
  rw [e, ← List.take_succ_eq_append_getElem h, List.take_append_drop]
theorem mid {α : Type} {xs ys : List α} {z : α} {n : Nat} (h : xs.length = n) : (xs ++ [z] ++ ys).take n = xs ∧ (xs ++ [z] ++ ys).drop n = z :: ys ∧ (xs ++ [z] ++ ys).drop (n + 1) = ys := by
  subst h
  refine ⟨by rw [List.append_assoc, List.take_left], by rw [List.append_assoc, List.drop_left]; rfl, ?_⟩
  rw [List.append_assoc, ← List.drop_drop, List.drop_left]
  rfl
theorem cat {α : Type} {xs ys : List α} {n : Nat} (h : xs.length = n) : (xs ++ ys).take n = xs ∧ (xs ++ ys).drop n = ys := by
  subst h
  exact ⟨by rw [List.take_left], by rw [List.drop_left]⟩
theorem back_laid {zs : List Str} : ∀ {e : Ed}, fits zs.length e = true → laid (laid zs e) (back zs e) = zs
  | put a s, h => by
    have ha := fits_at h
    simp only [at_] at ha
    obtain ⟨h1, h2, h3⟩ := mid (xs := zs.take a.toNat) (z := s) (ys := zs.drop a.toNat) (n := a.toNat) (by rw [List.length_take]; omega)
    simp only [laid, back]
    rw [h1, h3, List.take_append_drop]
  | cut a, h => by
    simp only [fits, Bool.and_eq_true, decide_eq_true_eq] at h
    have hl : a.toNat < zs.length := by omega
    obtain ⟨h1, h2⟩ := cat (xs := zs.take a.toNat) (ys := zs.drop (a.toNat + 1)) (n := a.toNat) (by rw [List.length_take]; omega)
    simp only [laid, back]
    rw [h1, h2, ← split hl]
  | turn a s, h => by
    simp only [fits, Bool.and_eq_true, decide_eq_true_eq] at h
    have hl : a.toNat < zs.length := by omega
    obtain ⟨h1, h2, h3⟩ := mid (xs := zs.take a.toNat) (z := s) (ys := zs.drop (a.toNat + 1)) (n := a.toNat) (by rw [List.length_take]; omega)
    simp only [laid, back]
    rw [h1, h3, ← split hl]
theorem back_back {zs : List Str} : ∀ {e : Ed}, fits zs.length e = true → back (laid zs e) (back zs e) = e
  | put a s, h => by
    have ha := fits_at h
    simp only [at_] at ha
    obtain ⟨h1, h2, h3⟩ := mid (xs := zs.take a.toNat) (z := s) (ys := zs.drop a.toNat) (n := a.toNat) (by rw [List.length_take]; omega)
    simp only [laid, back]
    have : (zs.take a.toNat ++ [s] ++ zs.drop a.toNat).getD a.toNat "" = s := by
      have e := congrArg List.head? h2
      rw [List.head?_drop] at e
      rw [List.getD_eq_getElem?_getD, e]
      rfl
    rw [this]
  | cut a, h => rfl
  | turn a s, h => by
    simp only [fits, Bool.and_eq_true, decide_eq_true_eq] at h
    obtain ⟨h1, h2, h3⟩ := mid (xs := zs.take a.toNat) (z := s) (ys := zs.drop (a.toNat + 1)) (n := a.toNat) (by rw [List.length_take]; omega)
    simp only [laid, back]
    have : (zs.take a.toNat ++ [s] ++ zs.drop (a.toNat + 1)).getD a.toNat "" = s := by
      have e := congrArg List.head? h2
      rw [List.head?_drop] at e
      rw [List.getD_eq_getElem?_getD, e]
      rfl
    rw [this]
/-- an edit laid on step by step -/
def pre (zs : List Str) : Ed → Nat → List Str
  | _, 0 => []
  | put a s, i + 1 => (pre zs (put a s) i ++ if (i : Int) = a then [s] else []) ++ zs[i]?.toList
  | cut a, i + 1 => pre zs (cut a) i ++ if (i : Int) = a then [] else zs[i]?.toList
  | turn a s, i + 1 => (pre zs (turn a s) i ++ if (i : Int) = a then [s] else []) ++ if (i : Int) = a then [] else zs[i]?.toList
theorem drop_take {zs : List Str} {n j : Nat} : (zs.drop n).take (j + 1) = (zs.drop n).take j ++ zs[n + j]?.toList := by rw [List.take_succ, List.getElem?_drop]
theorem pre_lo {zs : List Str} {e : Ed} : ∀ {i : Nat}, i ≤ e.at_.toNat → 0 ≤ e.at_ → pre zs e i = zs.take i
  | 0, _, _ => by cases e <;> rfl
  | i + 1, h, h0 => by
    have ih := pre_lo (zs := zs) (e := e) (i := i) (by omega) h0
    cases e with
    | put a s =>
      simp only [at_] at h h0
      have ne : (i : Int) ≠ a := by omega
      rw [pre, ih, if_neg ne, List.append_nil, List.take_succ]
    | cut a =>
      simp only [at_] at h h0
      have ne : (i : Int) ≠ a := by omega
      rw [pre, ih, if_neg ne, List.take_succ]
    | turn a s =>
      simp only [at_] at h h0
      have ne : (i : Int) ≠ a := by omega
      rw [pre, ih, if_neg ne, if_neg ne, List.append_nil, List.take_succ]
theorem pre_hi {zs : List Str} {e : Ed} (h0 : 0 ≤ e.at_) : ∀ {j : Nat}, pre zs e (e.at_.toNat + 1 + j) = match e with
    | put a s => zs.take a.toNat ++ [s] ++ (zs.drop a.toNat).take (j + 1)
    | cut a => zs.take a.toNat ++ (zs.drop (a.toNat + 1)).take j
    | turn a s => zs.take a.toNat ++ [s] ++ (zs.drop (a.toNat + 1)).take j
  | 0 => by
    have lo := pre_lo (zs := zs) (e := e) (i := e.at_.toNat) (Nat.le_refl _) h0
    cases e with
    | put a s =>
      simp only [at_] at h0 lo ⊢
      have e1 : ((a.toNat : Nat) : Int) = a := by omega
      rw [Nat.add_zero, pre, lo, if_pos e1, drop_take, List.take_zero, List.nil_append, Nat.add_zero]
    | cut a =>
      simp only [at_] at h0 lo ⊢
      have e1 : ((a.toNat : Nat) : Int) = a := by omega
      rw [Nat.add_zero, pre, lo, if_pos e1, List.take_zero]
    | turn a s =>
      simp only [at_] at h0 lo ⊢
      have e1 : ((a.toNat : Nat) : Int) = a := by omega
      rw [Nat.add_zero, pre, lo, if_pos e1, if_pos e1, List.take_zero]
  | j + 1 => by
    have ih := pre_hi (zs := zs) h0 (j := j)
    cases e with
    | put a s =>
      simp only [at_] at h0 ih ⊢
      have ne : ((a.toNat + 1 + j : Nat) : Int) ≠ a := by omega
      rw [← Nat.add_assoc, pre, ih, if_neg ne, List.append_nil, drop_take (j := j + 1), List.append_assoc, show a.toNat + 1 + j = a.toNat + (j + 1) by omega]
    | cut a =>
      simp only [at_] at h0 ih ⊢
      have ne : ((a.toNat + 1 + j : Nat) : Int) ≠ a := by omega
      rw [← Nat.add_assoc, pre, ih, if_neg ne, drop_take, List.append_assoc]
    | turn a s =>
      simp only [at_] at h0 ih ⊢
      have ne : ((a.toNat + 1 + j : Nat) : Int) ≠ a := by omega
      rw [← Nat.add_assoc, pre, ih, if_neg ne, if_neg ne, List.append_nil, drop_take, List.append_assoc]
theorem pre_all {zs : List Str} {e : Ed} (h : fits zs.length e = true) : pre zs e (zs.length + 1) = laid zs e := by
  obtain ⟨h0, h1⟩ := fits_at h
  obtain ⟨j, hj⟩ : ∃ j, zs.length = e.at_.toNat + j := ⟨zs.length - e.at_.toNat, by omega⟩
  rw [show zs.length + 1 = e.at_.toNat + 1 + j by omega, pre_hi h0]
  cases e with
  | put a s =>
    simp only [at_] at hj
    simp only [laid]
    rw [List.take_of_length_le (l := zs.drop a.toNat) (by rw [List.length_drop]; omega)]
  | cut a =>
    simp only [at_] at hj
    simp only [laid]
    rw [List.take_of_length_le (l := zs.drop (a.toNat + 1)) (by rw [List.length_drop]; omega)]
  | turn a s =>
    simp only [at_] at hj
    simp only [laid]
    rw [List.take_of_length_le (l := zs.drop (a.toNat + 1)) (by rw [List.length_drop]; omega)]
theorem pre_len {zs : List Str} {e : Ed} : ∀ i, (pre zs e i).length ≤ 2 * i
  | 0 => by cases e <;> exact Nat.zero_le _
  | i + 1 => by
    have ih := pre_len (zs := zs) (e := e) i
    have h1 : (zs[i]?.toList).length ≤ 1 := by cases zs[i]? <;> simp
    cases e with
    | put a s =>
      rw [pre, List.length_append, List.length_append]
      split <;> simp only [List.length_cons, List.length_nil] <;> omega
    | cut a =>
      rw [pre, List.length_append]
      split
      · simp only [List.length_nil]; omega
      · omega
    | turn a s =>
      rw [pre, List.length_append, List.length_append]
      split
      · simp only [List.length_cons, List.length_nil]; omega
      · simp only [List.length_nil]; omega
def kd : Ed → Str
  | put _ _ => "put"
  | cut _ => "cut"
  | turn _ _ => "turn"
def tl : Ed → List D
  | put _ s => [.str s]
  | cut _ => []
  | turn _ s => [.str s]
def th : Ed → Str
  | put _ s => s
  | cut _ => ""
  | turn _ s => s
theorem d_eq : ∀ e : Ed, e.d = .tup (.str e.kd :: .int e.at_ :: e.tl)
  | put _ _ => rfl
  | cut _ => rfl
  | turn _ _ => rfl
/-- the same edit at another place -/
def mv (b : Int) : Ed → Ed
  | put _ s => put b s
  | cut _ => cut b
  | turn _ s => turn b s
theorem mv_d (b : Int) : ∀ e : Ed, (mv b e).d = .tup (.str e.kd :: .int b :: e.tl)
  | put _ _ => rfl
  | cut _ => rfl
  | turn _ _ => rfl
theorem tl_th : ∀ {e : Ed}, e.kd ≠ "cut" → e.tl = [.str e.th]
  | put _ _, _ => rfl
  | cut _, h => absurd rfl h
  | turn _ _, _ => rfl
theorem kd_put (a : Int) (s : Str) : (put a s).kd = "put" := rfl
theorem s_cp : (("cut" : Str) = "put") = False := eq_false (by decide)
theorem s_tp : (("turn" : Str) = "put") = False := eq_false (by decide)
theorem s_pc : (("put" : Str) = "cut") = False := eq_false (by decide)
theorem s_tc : (("turn" : Str) = "cut") = False := eq_false (by decide)
theorem opt_list {zs : List Str} {i : Nat} : zs[i]?.toList = if decide ((i : Int) < (zs.length : Nat)) = true then [zs.getD i ""] else [] := by
  by_cases h : i < zs.length
  · rw [if_pos (by simpa using h), List.getElem?_eq_getElem h, List.getD_eq_getElem?_getD, List.getElem?_eq_getElem h]
    rfl
  · rw [if_neg (by simpa using h), List.getElem?_eq_none (by omega)]
    rfl
theorem pre_step {zs : List Str} {e : Ed} {i : Nat} : pre zs e (i + 1) = (pre zs e i ++ if (decide ((i : Int) = e.at_) && !decide (e.kd = "cut")) = true then [e.th] else []) ++
    if (decide ((i : Int) < (zs.length : Nat)) && (!decide ((i : Int) = e.at_) || decide (e.kd = "put"))) = true then [zs.getD i ""] else [] := by
  cases e with
  | put a s =>
    rw [pre, opt_list]
    by_cases h : (i : Int) = a <;> simp [h, at_, kd, th, s_pc]
  | cut a =>
    rw [pre, opt_list]
    by_cases h : (i : Int) = a <;> simp [h, at_, kd, th, s_cp]
  | turn a s =>
    rw [pre, opt_list]
    by_cases h : (i : Int) = a <;> simp [h, at_, kd, th, s_tp, s_tc]
/-- the law's own test of a place -/
theorem fits_due {n : Nat} : ∀ e : Ed, (decide (e.at_ < 0) || decide ((n : Nat) - (if (!decide (e.kd = "put")) = true then (1 : Int) else 0) < e.at_)) = !fits n e
  | put a s => by
    simp only [at_, kd, fits, decide_true, Bool.not_true, Bool.false_eq_true, if_false]
    by_cases h1 : a < 0
    · simp [h1, show ¬ 0 ≤ a by omega]
    · by_cases h2 : a ≤ n
      · simp [h1, h2, show 0 ≤ a by omega]
      · simp [h1, h2, show 0 ≤ a by omega, show (n : Int) < a by omega]
  | cut a => by
    simp only [at_, kd, fits, s_cp, decide_false, Bool.not_false, if_true]
    by_cases h1 : a < 0
    · simp [h1, show ¬ 0 ≤ a by omega]
    · by_cases h2 : a < n
      · simp [h1, h2, show 0 ≤ a by omega, show ¬ (n : Int) - 1 < a by omega]
      · simp [h1, h2, show 0 ≤ a by omega, show (n : Int) - 1 < a by omega]
  | turn a s => by
    simp only [at_, kd, fits, s_tp, decide_false, Bool.not_false, if_true]
    by_cases h1 : a < 0
    · simp [h1, show ¬ 0 ≤ a by omega]
    · by_cases h2 : a < n
      · simp [h1, h2, show 0 ≤ a by omega, show ¬ (n : Int) - 1 < a by omega]
      · simp [h1, h2, show 0 ≤ a by omega, show (n : Int) - 1 < a by omega]
end Ed
theorem at_0 {α : Type} {a : α} {r : List α} : atI (a :: r) (0 : Int) = some a := atI_nat (xs := (a :: r)) (show (a :: r)[0]? = _ from rfl)
theorem at_1 {α : Type} {a b : α} {r : List α} : atI (a :: b :: r) (1 : Int) = some b := atI_nat (xs := (a :: b :: r)) (show (a :: b :: r)[1]? = _ from rfl)
theorem at_2 {α : Type} {a b c : α} {r : List α} : atI (a :: b :: c :: r) (2 : Int) = some c := atI_nat (xs := (a :: b :: c :: r)) (show (a :: b :: c :: r)[2]? = _ from rfl)
/-! cuts of lists -/
theorem cut_to {α : Type} {xs : List α} {a : Int} (h : 0 ≤ a) : cut xs none (some a) = xs.take a.toNat := by
  unfold cut
  have e1 : HT.sIx xs.length 0 none = 0 := rfl
  have e2 : HT.sIx xs.length xs.length (some a) = min a.toNat xs.length := by
    have := HT.sIx_nat xs.length xs.length a.toNat
    rw [Int.toNat_of_nonneg h] at this
    exact this
  rw [e1, e2, List.drop_zero, Nat.sub_zero]
  rw [List.take_eq_take_iff]
  omega
theorem cut_from {α : Type} {xs : List α} {a : Int} (h : 0 ≤ a) : cut xs (some a) none = xs.drop a.toNat := by
  unfold cut
  have e1 : HT.sIx xs.length xs.length none = xs.length := rfl
  have e2 : HT.sIx xs.length 0 (some a) = min a.toNat xs.length := by
    have := HT.sIx_nat xs.length 0 a.toNat
    rw [Int.toNat_of_nonneg h] at this
    exact this
  rw [e1, e2]
  by_cases k : a.toNat ≤ xs.length
  · rw [Nat.min_eq_left k, List.take_of_length_le (by rw [List.length_drop]; omega)]
  · rw [Nat.min_eq_right (by omega), Nat.sub_self, List.take_zero, List.drop_of_length_le (by omega)]
/-- edits laid on one after the other -/
def stepE (r : Option (List Str)) (e : Ed) : Option (List Str) := r.bind fun z => if Ed.fits z.length e = true then some (Ed.laid z e) else none
def laidAll (zs : List Str) (es : List Ed) : Option (List Str) := es.foldl stepE (some zs)
theorem stepE_none : ∀ es : List Ed, es.foldl stepE none = none
  | [] => rfl
  | _ :: es => stepE_none es
theorem laidAll_take {zs : List Str} {es : List Ed} {i : Nat} {e : Ed} (h : es[i]? = some e) : laidAll zs (es.take (i + 1)) = stepE (laidAll zs (es.take i)) e := by
  have hl := (List.getElem?_eq_some_iff.mp h)
  obtain ⟨hl, he⟩ := hl
  unfold laidAll
  rw [List.take_succ_eq_append_getElem hl, List.foldl_append, he]
  rfl
theorem laidAll_stop {zs : List Str} {es : List Ed} {i : Nat} (h : laidAll zs (es.take i) = none) : laidAll zs es = none := by
  unfold laidAll at h ⊢
  rw [← List.take_append_drop i es, List.foldl_append, h, stepE_none]
/-- drawn clauses -/
def lcg (n : Int) : Nat → Int
  | 0 => n
  | k + 1 => lcg n k * 48271 % 4294967311
theorem lcg_succ {n : Int} {k : Nat} : lcg n (k + 1) = lcg n k * 48271 % 4294967311 := rfl
def clauseWs (c : Int) (k : Nat) : List Str := (List.range k).map fun i => word (lcg (c % 4294967311 + 1) (i + 1) / 5)
def clauseL (c : Int) : List Str := clauseWs c (c % 4).toNat
def drawn (c : Int) : Str := clauseC (clauseL c)
theorem clauseWs_succ (c : Int) (k : Nat) : clauseWs c (k + 1) = clauseWs c k ++ [word (lcg (c % 4294967311 + 1) (k + 1) / 5)] := by
  unfold clauseWs
  rw [List.range_succ, List.map_append]
  rfl
theorem clauseWs_sum (c : Int) (k : Nat) : ((clauseWs c k).map (·.length)).sum + (clauseWs c k).length ≤ k * 4 := by
  have hl : (clauseWs c k).length = k := by unfold clauseWs; rw [List.length_map, List.length_range]
  have h1 := sum_le (f := fun s : Str => s.length) (m := 3) (l := clauseWs c k) fun x hx => by
    unfold clauseWs at hx
    obtain ⟨i, _, rfl⟩ := List.mem_map.mp hx
    exact word_len _
  rw [hl] at h1 ⊢
  omega
theorem drawn_len (c : Int) : (drawn c).length ≤ 12 := by
  have h := clause_len (clauseL c)
  have h2 := clauseWs_sum c (c % 4).toNat
  have h3 : (c % 4).toNat ≤ 3 := by omega
  unfold drawn
  unfold clauseL at h ⊢
  omega
theorem Ed.ty {K : PySem.W.Frag} {om : Om} {e : Ed} : Ty K om e.d (.type "tuple") := by
  rw [Ed.d_eq]
  exact Ty.tup
theorem Ed.ix0 {X : Cx} {om : Om} {e : Ed} : Ix X om e.d (.int 0) (.str e.kd) := by
  rw [Ed.d_eq]
  exact ix_T at_0
theorem Ed.ix1 {X : Cx} {om : Om} {e : Ed} : Ix X om e.d (.int 1) (.int e.at_) := by
  rw [Ed.d_eq]
  exact ix_T at_1
theorem Ed.atL {zs : List Str} {a : Int} (h0 : 0 ≤ a) (h1 : a < zs.length) : atI (zs.map D.str) a = some (.str (zs.getD a.toNat "")) := by
  have e1 : a = (a.toNat : Int) := by omega
  have h2 : a.toNat < zs.length := by omega
  have : atI (zs.map D.str) (a.toNat : Int) = some (.str (zs.getD a.toNat "")) := by
    refine atI_nat ?_
    rw [List.getElem?_map, List.getD_eq_getElem?_getD, List.getElem?_eq_getElem h2]
    rfl
  rw [← e1] at this
  exact this
theorem cut_two {α : Type} {a b : α} {r : List α} : cut (a :: b :: r) (some 2) none = r := cut_from (by decide)
theorem ups_keep {om : Om} {p q : Addr} {o u : DO} (h : om p = some u) (hq : om q = none) : ups om q o p = some u := by
  rw [ups_ne (fun z => by subst z; rw [h] at hq; cases hq)]
  exact h
theorem un_1 {n : Nat} (h : n + 150 < cLine) : n + 1 < cLine := by omega
theorem un_64 {n : Nat} (h : n + 150 < cLine) : n + 64 < cLine := by omega
theorem un_65 {n : Nat} (h : n + 150 < cLine) : n + 65 < cLine := by omega
end Mo

set_option Elab.async false
set_option linter.all false
set_option maxRecDepth 100000
set_option maxHeartbeats 4000000
set_option autoImplicit false
/-! Small things: ranges over a natural number, last items. -/
namespace Mo
open PySem PySem.Spec PyProof.Rows L2
section
variable {X : Cx} {ro : Ro} {om : Om} {e : Expr} {x : D}
theorem it_rN {tg : Expr} {p p1 : Pos} {n : Nat} (h : wv X ro om e (.int n)) (hm : X.mg "range" = none) (hn : n < 2 ^ 60) (hg : Gl X "range") (hs : starEach [e] X.env = [(false, eval e X.env)]) :
    Itd X ro om tg (.Call (.Name "range" p) [e] [] p1) ((List.range n).map fun (i : Nat) => .int (i : Int)) (fun _ => True) := by
  have r := it_r1 (tg := tg) (p := p) (p1 := p1) h hm (by omega) (by omega) hg hs
  rw [Int.toNat_natCast] at r
  exact r
end
theorem at_last {α : Type} {xs : List α} {a : α} : atI (xs ++ [a]) (-1) = some a := by
  unfold atI
  have e : ixN (xs ++ [a]).length (-1) = some xs.length := by
    rw [List.length_append, List.length_singleton]
    unfold ixN
    rw [if_neg (by omega), if_pos (by omega)]
    congr 1
    omega
  rw [e]
  show (xs ++ [a])[xs.length]? = some a
  rw [List.getElem?_append_right (Nat.le_refl _), Nat.sub_self]
  rfl
theorem at_map {α β : Type} {f : α → β} {xs : List α} {i : Nat} {x : α} (h : xs[i]? = some x) : atI (xs.map f) (i : Int) = some (f x) := atI_nat (by rw [List.getElem?_map, h]; rfl)
/-- the item of a mapped range -/
theorem rng_item {β : Type} {f : Nat → β} {n i : Nat} {d : β} (h : ((List.range n).map f)[i]? = some d) : i < n ∧ d = f i := by
  rw [List.getElem?_map] at h
  obtain ⟨t, ht, rfl⟩ := Option.map_eq_some_iff.mp h
  obtain ⟨hlt, et⟩ := List.getElem?_eq_some_iff.mp ht
  rw [List.getElem_range] at et
  subst et
  rw [List.length_range] at hlt
  exact ⟨hlt, rfl⟩
/-- the item of a mapped list -/
theorem map_item {α β : Type} {f : α → β} {xs : List α} {i : Nat} {d : β} (h : (xs.map f)[i]? = some d) : ∃ x, xs[i]? = some x ∧ d = f x := by
  rw [List.getElem?_map] at h
  obtain ⟨t, ht, rfl⟩ := Option.map_eq_some_iff.mp h
  exact ⟨t, ht, rfl⟩
theorem cut_len {α : Type} {xs : List α} {a b : Nat} : (cut xs (some (a : Int)) (some (b : Int))).length ≤ b - a := by
  unfold cut
  rw [List.length_take]
  have h1 : HT.sIx xs.length xs.length (some (b : Int)) = min b xs.length := HT.sIx_nat xs.length xs.length b
  have h2 : HT.sIx xs.length 0 (some (a : Int)) = min a xs.length := HT.sIx_nat xs.length 0 a
  omega
theorem PdL.eds {om : Om} (l : List Ed) : PdL om (l.map Ed.d) (l.map Ed.p) := PdL.map (fun e => Ed.pd e) l
end Mo

set_option Elab.async false
set_option linter.all false
set_option maxRecDepth 100000
set_option maxHeartbeats 4000000
set_option autoImplicit false
/-! Instances: made, their methods called, their fields stored. -/
namespace Mo
open PySem PySem.Spec PyProof.Rows L2
/-- a method of the class at C that keeps its promise -/
structure MethOk (P : Program) (w : World) (K : PySem.W.Frag) (mg : Str → Option Value) (base : Heap) (C : Addr) (m : Str) (k n : Nat) (G : Fs) : Prop where
  cl : Cls K C
  ex : ∃ (f : Addr) (fd : FuncData) (ps : List Str), Meth K C m f ∧ FnOk P w K mg base (L2.CX P w) k f fd ps (spD K n G) ∧ Binds K fd ps []
theorem mk_of {P : Program} {w : World} {K : PySem.W.Frag} {mg : Str → Option Value} {base : Heap} {C : Addr} {m : Str} {k n : Nat} {G : Fs} {f : Addr} {fd : FuncData} {ps : List Str} (h : FnOk P w K mg base (L2.CX P w) k f fd ps (spD K n G)) (c : Cls K C) (hm : Meth K C m f) (hb : Binds K fd ps []) :
    MethOk P w K mg base C m k n G := ⟨c, f, fd, ps, hm, h, hb⟩
/-- x names the class at C, whose __init__ keeps its promise -/
structure MkOk (P : Program) (w : World) (K : PySem.W.Frag) (mg : Str → Option Value) (base : Heap) (x : Str) (C : Addr) (k n : Nat) (G : Fs) : Prop where
  g : mg x = some (.ref C)
  cl : Cls K C
  ex : ∃ (f : Addr) (fd : FuncData) (ps : List Str), Mk K C f ∧ FnOk P w K mg base (L2.CX P w) k f fd ps (spD K n G) ∧ Binds K fd ps []
/-- x names the class at C, that has no __init__ -/
structure Mk0 (K : PySem.W.Frag) (mg : Str → Option Value) (x : Str) (C : Addr) : Prop where
  g : mg x = some (.ref C)
  cl : Cls K C
  makes : PySem.W.makesIn K C = true
  ini : PySem.W.findIn K (.ref C) "__init__" = some (some (.builtin "object.__init__"))
  kp : PySem.W.keepIn K (.ref C) = true
section
variable {X : Cx} {R : RX} {F : De} {ro : Ro} {om : Om} {e o : Expr} {es : List Expr} {pos apos : Pos} {rest : List Stmt} {x d z : D} {m xn f : Str}

/-! ### o.m(..) -/
theorem e_meth {Q : DK} {pl : Sem Bool} (h : we X R ro om o fun x om1 => ∃ (a C : Addr) (fs : List (Str × D)) (k n : Nat) (G : Fs), x = .obj a ∧ om1 a = some (.ins C fs) ∧ fs.lookup m = none ∧ MethOk X.prog X.w X.K X.mg X.base C m k n G ∧ Room k X.A ∧
      wa X R ro om1 (e :: es) fun ds om2 => ds.length + 1 = n ∧ G (.obj a :: ds) om2 Q fun c fs om' => R c fs ro om')
    (hst : starEach (e :: es) X.env = (false, eval e X.env) :: starEach es X.env := by rfl) (hpl : (backTo pos (starEach es X.env)).any (·.1) = false := by rfl)
    (ht : eval (.Call (.Attribute o m apos) (e :: es) [] pos) X.env = (do
      let ov ← eval o X.env
      standAt apos.atName
      let (f, first) ← holding [ov] (getMethod ov m pl)
      callWith pos f first (backTo pos (starEach (e :: es) X.env)) (backToKw pos (keywordEach [] X.env))) := by rfl) : we X R ro om (.Call (.Attribute o m apos) (e :: es) [] pos) Q := .mk fun om0 H0 t σ H ok pins s I => by
  refine PySem.W.methodCall_KW (pl := pl) (thn (h om0 H0 t σ H ok pins s I) fun u s1 ⟨v, H1, I1, ru, x, om1, ⟨a, C, fs, k, n, G, ex, hp, hl, M, hr, q⟩, o1, r1⟩ => ?_) ht
  subst ex
  cases r1
  obtain rfl : u = Value.ref a := ru
  obtain ⟨c, f, fd, ps, hm, Fo, hb⟩ := M
  obtain ⟨dx, fs', h1, h2, h3⟩ := o1.store _ _ hp
  refine getmeth_ok I1 h1 c hm (lk_none h2 hl) ?_
  refine PySem.W.callWith_K (first := [.ref a]) (h₀ := X.base) I1.ok.mod.kin hm.kp (thn (q om1 H1 (t.at o1.stab) σ H1 ⟨o1.store, Stable.refl, o1.slot, o1.len⟩ pos pins s1 I1) fun us s2 ⟨vs, H2, I2, r, ds, om2, ⟨hn, g⟩, o2, r2⟩ => ⟨I2.kIn, ?_⟩) hst hpl
  have o3 : Ok X.K om0 H0 om2 H2 σ ro := ⟨o2.store, o1.stab.trans o2.stab, o2.slot, o2.len⟩
  exact run_fnS (us := .ref a :: us) (vs := .ref a :: vs) Fo hr hb (passAt t σ) I2 (.cons rfl r) (sp_run (ds := .obj a :: ds) o3 ⟨_, _, rfl, rfl, r2⟩ hn g)
theorem e_meth0 {Q : DK} {pl : Sem Bool} (h : we X R ro om o fun x om1 => ∃ (a C : Addr) (fs : List (Str × D)) (k : Nat) (G : Fs), x = .obj a ∧ om1 a = some (.ins C fs) ∧ fs.lookup m = none ∧ MethOk X.prog X.w X.K X.mg X.base C m k 1 G ∧ Room k X.A ∧
      G [.obj a] om1 Q fun c fs om' => R c fs ro om')
    (ht : eval (.Call (.Attribute o m apos) [] [] pos) X.env = (do
      let ov ← eval o X.env
      standAt apos.atName
      let (f, first) ← holding [ov] (getMethod ov m pl)
      callWith pos f first (backTo pos (starEach [] X.env)) (backToKw pos (keywordEach [] X.env))) := by rfl) : we X R ro om (.Call (.Attribute o m apos) [] [] pos) Q := .mk fun om0 H0 t σ H ok pins s I => by
  refine PySem.W.methodCall_KW (pl := pl) (thn (h om0 H0 t σ H ok pins s I) fun u s1 ⟨v, H1, I1, ru, x, om1, ⟨a, C, fs, k, G, ex, hp, hl, M, hr, g⟩, o1, r1⟩ => ?_) ht
  subst ex
  cases r1
  obtain rfl : u = Value.ref a := ru
  obtain ⟨c, f, fd, ps, hm, Fo, hb⟩ := M
  obtain ⟨dx, fs', h1, h2, h3⟩ := o1.store _ _ hp
  refine getmeth_ok I1 h1 c hm (lk_none h2 hl) ?_
  exact PySem.W.callWith_K0 (first := [.ref a]) I1.kIn hm.kp (run_fnS (us := [.ref a]) (vs := [.ref a]) Fo hr hb (passAt t σ) I1 (.cons rfl .nil) (sp_run (ds := [.obj a]) o1 ⟨_, _, rfl, rfl, rfl⟩ rfl g))
/-- pure uses -/
theorem v_meth {a C : Addr} {fs : List (Str × D)} {k n : Nat} {G : Fs} {ds : List D} {pl : Sem Bool} (h : wv X ro om o (.obj a)) (hp : om a = some (.ins C fs)) (hl : fs.lookup m = none) (M : MethOk X.prog X.w X.K X.mg X.base C m k n G) (hr : Room k X.A) (ha : wav X ro om (e :: es) ds) (hn : ds.length + 1 = n) (g : Pu G om (.obj a :: ds) z)
    (hst : starEach (e :: es) X.env = (false, eval e X.env) :: starEach es X.env := by rfl) (hpl : (backTo pos (starEach es X.env)).any (·.1) = false := by rfl)
    (ht : eval (.Call (.Attribute o m apos) (e :: es) [] pos) X.env = (do
      let ov ← eval o X.env
      standAt apos.atName
      let (f, first) ← holding [ov] (getMethod ov m pl)
      callWith pos f first (backTo pos (starEach (e :: es) X.env)) (backToKw pos (keywordEach [] X.env))) := by rfl) : wv X ro om (.Call (.Attribute o m apos) (e :: es) [] pos) z := .mk fun R Q q =>
  e_meth (pl := pl) (h R _ ⟨a, C, fs, k, n, G, rfl, hp, hl, M, hr, ha R _ ⟨hn, g _ _ q⟩⟩) hst hpl ht
theorem v_meth0 {a C : Addr} {fs : List (Str × D)} {k : Nat} {G : Fs} {pl : Sem Bool} (h : wv X ro om o (.obj a)) (hp : om a = some (.ins C fs)) (hl : fs.lookup m = none) (M : MethOk X.prog X.w X.K X.mg X.base C m k 1 G) (hr : Room k X.A) (g : Pu G om [.obj a] z)
    (ht : eval (.Call (.Attribute o m apos) [] [] pos) X.env = (do
      let ov ← eval o X.env
      standAt apos.atName
      let (f, first) ← holding [ov] (getMethod ov m pl)
      callWith pos f first (backTo pos (starEach [] X.env)) (backToKw pos (keywordEach [] X.env))) := by rfl) : wv X ro om (.Call (.Attribute o m apos) [] [] pos) z := .mk fun R Q q =>
  e_meth0 (pl := pl) (h R _ ⟨a, C, fs, k, G, rfl, hp, hl, M, hr, g _ _ q⟩) ht
theorem n_meth0 {a C : Addr} {fs : List (Str × D)} {k : Nat} {G : Fs} {zs : List D} {pl : Sem Bool} (h : wv X ro om o (.obj a)) (hp : om a = some (.ins C fs)) (hl : fs.lookup m = none) (M : MethOk X.prog X.w X.K X.mg X.base C m k 1 G) (hr : Room k X.A) (g : Pn G om [.obj a] zs)
    (ht : eval (.Call (.Attribute o m apos) [] [] pos) X.env = (do
      let ov ← eval o X.env
      standAt apos.atName
      let (f, first) ← holding [ov] (getMethod ov m pl)
      callWith pos f first (backTo pos (starEach [] X.env)) (backToKw pos (keywordEach [] X.env))) := by rfl) : wn X ro om (.Call (.Attribute o m apos) [] [] pos) zs := .mk fun R Q q =>
  e_meth0 (pl := pl) (h R _ ⟨a, C, fs, k, G, rfl, hp, hl, M, hr, g _ _ q⟩) ht

/-! ### C(..) -/
theorem make_store {K : PySem.W.Frag} {om1 : Om} {H1 : Hp} {a dx C : Addr} (S : StoreOk K om1 H1) (ha : H1 a = none) (hd : H1 dx = none) (ne : dx ≠ a) :
    StoreOk K (ups om1 a (.ins C [])) (upd (upd H1 dx (.own a)) a (.ins C dx [])) ∧ Stable om1 H1 (ups om1 a (.ins C [])) (upd (upd H1 dx (.own a)) a (.ins C dx [])) := by
  have S1 := S.new hd (u := .own a)
  have s1 : Stable om1 H1 om1 (upd H1 dx (.own a)) := Stable.new hd
  have h2 : (upd H1 dx (.own a)) a = none := by rw [upd_ne (Ne.symm ne)]; exact ha
  exact ⟨S1.mk h2 ⟨dx, [], upd_same, rfl, rfl⟩, s1.trans (Stable.mk h2)⟩
theorem no_pass {P : Program} {w : World} {X : Cx} (h : X.prog = P) (hw : X.w = w) : Passes (L2.CX P w) X (fun _ _ _ => False) := fun _ _ _ _ _ _ _ z => by
  obtain ⟨_, _, _, _, _, _, _, _, _, _, _, _, z⟩ := z
  exact z.elim
theorem make_sp {K : PySem.W.Frag} {C : Addr} {n : Nat} {G : Fs} {Q : DK} {om0 om1 : Om} {H0 H1 : Hp} {σ : L2.St} {ds : List D} {vs : List V} (o1 : Ok K om0 H0 om1 H1 σ ro) (r : RepL K om1 H1 ds vs) (hn : ds.length + 1 = n)
    (g : ∀ a, om1 a = none → G (.obj a :: ds) (ups om1 a (.ins C [])) (fun d om' => d = .non ∧ Q (.obj a) om') (fun _ _ _ => False)) (a dx : Addr) (ha : H1 a = none) (hd : H1 dx = none) (ne : dx ≠ a) :
    spD K n G (.ref a :: (vs ++ [])) (upd (upd H1 dx (.own a)) a (.ins C dx [])) (fun v H2 => v = .non ∧ ∃ d om', Q d om' ∧ Ok K om0 H0 om' H2 σ ro ∧ Rep K om' H2 d (.ref a)) (fun _ _ _ => False) := by
  obtain ⟨S2, s2⟩ := make_store (C := C) o1.store ha hd ne
  refine ⟨_, .obj a :: ds, _, _, S2, ?_, hn, g a (o1.store.fresh ha), fun d om' v H' ⟨e, q⟩ S s rd => ?_, fun _ _ _ _ _ z => z.elim⟩
  · rw [List.append_nil]
    exact ⟨_, _, rfl, rfl, r.mono s2⟩
  · subst e
    exact ⟨rd, .obj a, om', q, o1.to S (s2.trans s), rfl⟩
theorem e_make {C : Addr} {k n : Nat} {G : Fs} {Q : DK} {p : Pos} (Mq : MkOk X.prog X.w X.K X.mg X.base xn C k n G) (hr : Room (k + 1) X.A)
    (h : wa X R ro om (e :: es) fun ds om1 => ds.length + 1 = n ∧ ∀ a, om1 a = none → G (.obj a :: ds) (ups om1 a (.ins C [])) (fun d om' => d = .non ∧ Q (.obj a) om') (fun _ _ _ => False))
    (hg : Gl X xn) (hdb : (xn == ("__debug__" : Str)) = false := by decide) (he : starEach (e :: es) X.env = (false, eval e X.env) :: starEach es X.env := by rfl) (hpl : (backTo pos (starEach es X.env)).any (·.1) = false := by rfl) :
    we X R ro om (.Call (.Name xn p) (e :: es) [] pos) Q := .mk fun om0 H0 t σ H o => by
  obtain ⟨f, fd, ps, M, Fo, hb⟩ := Mq.ex
  refine pE_of (pe_make M Fo hr hg Mq.g hb .nil (no_pass rfl rfl) pA_pa hdb he hpl) ?_
  exact pA_mono (h om0 H0 t σ H o) fun vs H1 ⟨ds, om1, ⟨hn, g⟩, o1, r⟩ a dx ha hd ne => make_sp o1 r hn g a dx ha hd ne
theorem e_make0 {C : Addr} {k : Nat} {G : Fs} {Q : DK} {p : Pos} (Mq : MkOk X.prog X.w X.K X.mg X.base xn C k 1 G) (hr : Room (k + 1) X.A)
    (g : ∀ a, om a = none → G [.obj a] (ups om a (.ins C [])) (fun d om' => d = .non ∧ Q (.obj a) om') (fun _ _ _ => False))
    (hg : Gl X xn) (hdb : (xn == ("__debug__" : Str)) = false := by decide) : we X R ro om (.Call (.Name xn p) [] [] pos) Q := .mk fun om0 H0 t σ H o => by
  obtain ⟨f, fd, ps, M, Fo, hb⟩ := Mq.ex
  refine pE_of (pe_make0 M Fo hr hg Mq.g hb .nil (no_pass rfl rfl) hdb) ?_
  exact fun a dx ha hd ne => make_sp (ds := []) (vs := []) o rfl rfl g a dx ha hd ne
/-- C(), no __init__ -/
theorem e_make00 {C : Addr} {Q : DK} {p : Pos} (M : Mk0 X.K X.mg xn C) (q : ∀ a, om a = none → Q (.obj a) (ups om a (.ins C []))) (hg : Gl X xn) (hdb : (xn == ("__debug__" : Str)) = false := by decide) :
    we X R ro om (.Call (.Name xn p) [] [] pos) Q := .mk fun om0 H0 t σ H o pins s I => by
  refine wpAny_Call_Name_kw (ld_glob I hg M.g ?_ hdb)
  have Y := PySem.W.makes_of (M := model X.prog X.w) I.kIn M.makes
  refine PySem.W.callWith_K0 I.kIn M.kp (wpAny_call (make_map0 I.kIn M.makes M.ini (fun self => PySem.W.Looks.of_pure (PySem.W.oi_bind self)) ?_))
  have I2 := Inv.made (C := C) I
  have ha : H (s.heap.objs.size + 1) = none := I.hok.fresh (Nat.le_succ _)
  have hd : H s.heap.objs.size = none := I.hok.fresh (Nat.le_refl _)
  have ne : s.heap.objs.size ≠ s.heap.objs.size + 1 := Nat.ne_of_lt (Nat.lt_succ_self _)
  obtain ⟨S2, s2⟩ := make_store (C := C) o.store ha hd ne
  have hx : ((s.heap.push PySem.W.emptyDict).push (PySem.W.instObj C s.heap.objs.size)).get? (s.heap.objs.size + 1) = some (PySem.W.instObj C s.heap.objs.size) := by
    have := Heap.get?_push_size (s.heap.push PySem.W.emptyDict) (o := PySem.W.instObj C s.heap.objs.size) rfl
    rwa [Heap.size_push] at this
  have t1 : PySem.W.Looks (model X.prog X.w) ((s.heap.push PySem.W.emptyDict).push (PySem.W.instObj C s.heap.objs.size)) (typeOf (.ref (s.heap.objs.size + 1))) (.ref C) := (PySem.W.Looks.ld hx).andThen .now
  have t2 : PySem.W.Looks (model X.prog X.w) ((s.heap.push PySem.W.emptyDict).push (PySem.W.instObj C s.heap.objs.size)) (isInstance (.ref (s.heap.objs.size + 1)) (.type "object")) true := t1.andThen (Y.top.keeps fun b o e => Heap.get?_push_of_some _ (Heap.get?_push_of_some _ e))
  refine codeAny_call_builtin PySem.W.oi_plain PySem.W.entry_oi (@PySem.W.check_slot (model X.prog X.w) _ _ _ "object.__init__" "object" "__init__" (.ref (s.heap.objs.size + 1)) [] [] _ PySem.W.oi_kind PySem.W.oi_split t2 (PySem.W.oi_args (.ref (s.heap.objs.size + 1))) ?_)
  rw [PySem.W.oi_run]
  refine wpAny_pure (And.intro rfl ?_)
  exact ⟨.ref (s.heap.objs.size + 1), _, I2, rfl, .obj (s.heap.objs.size + 1), _, q _ (o.store.fresh ha), o.to S2 s2, rfl⟩

/-! ### self.f = e -/
theorem st_fld {p C : Addr} {fs : List (Str × D)} {pos' : Pos} (h : wv X ro om e d) (ho : wv X ro om o (.obj p)) (hp : om p = some (.ins C fs)) (A : Att X.K C f) (hl : fs.length < 1000) (k : ws X F ro (ups om p (.ins C (putD f d fs))) rest)
    (hs : swapsWith e (some (.Attribute o f pos')) pos.line X.env = pure false := by rfl) : ws X F ro om (.Assign [.Attribute o f pos'] e pos :: rest) := ws_cons (s_fld (h _ _ (ho _ _ ⟨p, C, fs, rfl, hp, A, hl, k⟩)) hs)
/-- .. the value a new list -/
theorem st_fldN {p C : Addr} {fs : List (Str × D)} {ds : List D} {pos' : Pos} (h : wn X ro om e ds) (ho : ∀ q, om q = none → wv X ro (ups om q (.lst ds)) o (.obj p)) (hp : om p = some (.ins C fs)) (A : Att X.K C f) (hl : fs.length < 1000)
    (k : ∀ q, om q = none → q ≠ p → ws X F ro (ups (ups om q (.lst ds)) p (.ins C (putD f (.obj q) fs))) rest)
    (hs : swapsWith e (some (.Attribute o f pos')) pos.line X.env = pure false := by rfl) : ws X F ro om (.Assign [.Attribute o f pos'] e pos :: rest) := ws_cons (s_fld (h _ _ fun q hq => ho q hq _ _ ⟨p, C, fs, rfl, ups_keep hp hq, A, hl, k q hq (fun z => by subst z; rw [hp] at hq; cases hq)⟩) hs)
/-- an expression of any effect as a statement -/
theorem st_e (h : we X F.ex ro om e fun _ om' => ws X F ro om' rest) (hs : swapsWith e none pos.line X.env = pure false := by rfl) : ws X F ro om (.Expr e pos :: rest) := ws_cons (s_expr h hs)
/-- name = e, of any effect -/
theorem Lo.setE {i : Nat} {xn : Str} {pos' : Pos} (l : Lo X i xn) (nd : X.N.Nodup) (h : we X F.ex ro om e fun d om' => ws X F (ro.set i (some d)) om' rest) (hs : swapsWith e (some (.Name xn pos')) pos.line X.env = pure false := by rfl) : ws X F ro om (.Assign [.Name xn pos'] e pos :: rest) := ws_cons (l.asg nd h hs)
end
/-! ### the facts -/
def fMk0 (x : Str) : Fk := fun K => fGlo x K && fCls x K && PySem.W.makesIn K (He.ga K x) && He.eqO (PySem.W.findIn K (.ref (He.ga K x)) "__init__") (some (some (.builtin "object.__init__"))) && PySem.W.keepIn K (.ref (He.ga K x))
def fMk (x : Str) : Fk := fun K => fGlo x K && fCls x K && fMkr x K
def fAtt (x f : Str) : Fk := fun K => fCls x K && fNoat x f K
def fMth (x m : Str) : Fk := fun K => fCls x K && fMeth x m K
/-- x has the method m of y -/
def fInh (x y m : Str) : Fk := fun K => fCls x K && fMeth x m K && decide (He.ma K (He.ga K x) m = He.ma K (He.ga K y) m)
def fIns (x : Str) : Fk := fun K => fCls x K && He.eqO (PySem.W.findIn K (.ref (He.ga K x)) "__class__") (some (some (.builtin "object.__class__"))) && He.eqO (PySem.W.specialIn K (.builtin "object.__class__") "__get__") (some (some (.builtin "getset_descriptor.__get__"))) &&
  decide (PySem.W.takesIn K (.builtin "object.__class__") = some true) && decide (PySem.W.mroIn K (He.ga K x) (.type "object") = some true)
section
variable {P : Program} {w : World} {K : PySem.W.Frag} {mg : Str → Option Value} {base h : Heap} {x y m f : Str}
theorem fMk0_ok (X : K.In h) (G : h.Ns mainGlobals mg) (c : fMk0 x K = true) : Mk0 K mg x (He.ga K x) := by
  unfold fMk0 at c
  simp only [Bool.and_eq_true] at c
  obtain ⟨⟨⟨⟨c1, c2⟩, c3⟩, c4⟩, c5⟩ := c
  exact ⟨fGlo_ok X G c1, He.cls_ok c2, c3, He.eqO_ok c4, c5⟩
theorem fMk_ok {k n : Nat} {Gf : Fs} {fd : FuncData} {ps : List Str} (X : K.In h) (G : h.Ns mainGlobals mg) (c : fMk x K = true) (ok : FnOk P w K mg base (L2.CX P w) k (He.ma K (He.ga K x) "__init__") fd ps (spD K n Gf)) (hb : Binds K fd ps []) : MkOk P w K mg base x (He.ga K x) k n Gf := by
  unfold fMk at c
  simp only [Bool.and_eq_true] at c
  obtain ⟨⟨c1, c2⟩, c3⟩ := c
  exact ⟨fGlo_ok X G c1, He.cls_ok c2, _, fd, ps, He.mkr_ok c3, ok, hb⟩
theorem fAtt_ok (c : fAtt x f K = true) : Att K (He.ga K x) f := by
  obtain ⟨c1, c2⟩ := Bool.and_eq_true_iff.mp c
  exact ⟨He.cls_ok c1, He.noat_ok c2⟩
theorem fMth_ok {k n : Nat} {Gf : Fs} {fd : FuncData} {ps : List Str} (c : fMth x m K = true) (ok : FnOk P w K mg base (L2.CX P w) k (He.ma K (He.ga K x) m) fd ps (spD K n Gf)) (hb : Binds K fd ps []) : MethOk P w K mg base (He.ga K x) m k n Gf := by
  obtain ⟨c1, c2⟩ := Bool.and_eq_true_iff.mp c
  exact ⟨He.cls_ok c1, _, fd, ps, He.meth_ok c2, ok, hb⟩
theorem fInh_ok {k n : Nat} {Gf : Fs} {fd : FuncData} {ps : List Str} (c : fInh x y m K = true) (ok : FnOk P w K mg base (L2.CX P w) k (He.ma K (He.ga K y) m) fd ps (spD K n Gf)) (hb : Binds K fd ps []) : MethOk P w K mg base (He.ga K x) m k n Gf := by
  unfold fInh at c
  simp only [Bool.and_eq_true, decide_eq_true_eq] at c
  obtain ⟨⟨c1, c2⟩, c3⟩ := c
  rw [← c3] at ok
  exact ⟨He.cls_ok c1, _, fd, ps, He.meth_ok c2, ok, hb⟩
theorem fIns_ok (c : fIns x K = true) : InsC K (He.ga K x) := by
  unfold fIns at c
  simp only [Bool.and_eq_true, decide_eq_true_eq] at c
  obtain ⟨⟨⟨⟨c1, c2⟩, c3⟩, c4⟩, c5⟩ := c
  exact ⟨He.cls_ok c1, He.eqO_ok c2, He.eqO_ok c3, c4, c5⟩
end
end Mo

set_option Elab.async false
set_option linter.all false
set_option maxRecDepth 100000
set_option maxHeartbeats 4000000
set_option autoImplicit false
/-! Motions: as they are told, as they are kept. -/
namespace Mo
open PySem PySem.Spec PyProof.Rows L2
/-- a motion as it is told -/
inductive Td where
  | matter (t : List Str) | change (e : Ed) | mend (e : Ed) | putOff (n : Int) | close | lay | rest | point (s : Str)
deriving DecidableEq
namespace Td
def kind : Td → Str
  | matter _ => "matter" | change _ => "change" | mend _ => "mend" | putOff _ => "put off" | close => "close" | lay => "lay" | rest => "rest" | point _ => "point"
def rank : Td → Int
  | matter _ => 0 | change _ => 1 | mend _ => 2 | putOff _ => 3 | close => 4 | lay => 5 | rest => 6 | point _ => 7
def d : Td → D
  | matter t => .tup [.str "matter", .lst (t.map .str)]
  | change e => .tup [.str "change", e.d]
  | mend e => .tup [.str "mend", e.d]
  | putOff n => .tup [.str "put off", .int n]
  | close => .tup [.str "close"]
  | lay => .tup [.str "lay"]
  | rest => .tup [.str "rest"]
  | point s => .tup [.str "point", .str s]
def p : Td → PyData
  | matter t => .tuple [.str "matter", .list (t.map .str)]
  | change e => .tuple [.str "change", e.p]
  | mend e => .tuple [.str "mend", e.p]
  | putOff n => .tuple [.str "put off", .int n]
  | close => .tuple [.str "close"]
  | lay => .tuple [.str "lay"]
  | rest => .tuple [.str "rest"]
  | point s => .tuple [.str "point", .str s]
theorem pd {om : Om} : ∀ t : Td, Pd om t.d t.p
  | matter t => Pd.t (.cons (Pd.str _) (.cons (Pd.l (PdL.strs t)) .nil))
  | change e => Pd.t (.cons (Pd.str _) (.cons (Ed.pd e) .nil))
  | mend e => Pd.t (.cons (Pd.str _) (.cons (Ed.pd e) .nil))
  | putOff n => Pd.t (.cons (Pd.str _) (.cons (Pd.int n) .nil))
  | close => Pd.t (.cons (Pd.str _) .nil)
  | lay => Pd.t (.cons (Pd.str _) .nil)
  | rest => Pd.t (.cons (Pd.str _) .nil)
  | point s => Pd.t (.cons (Pd.str _) (.cons (Pd.str s) .nil))
theorem pk {n : Nat} : ∀ t : Td, pokn (n + 2) t.p
  | matter t => pokn_tuple (all_cons pokn_str (all_cons (pokn_list (all_map (fun _ => pokn_str) t)) all_nil))
  | change e => pokn_tuple (all_cons pokn_str (all_cons (Ed.pk e) all_nil))
  | mend e => pokn_tuple (all_cons pokn_str (all_cons (Ed.pk e) all_nil))
  | putOff n => pokn_tuple (all_cons pokn_str (all_cons pokn_int all_nil))
  | close => pokn_tuple (all_cons pokn_str all_nil)
  | lay => pokn_tuple (all_cons pokn_str all_nil)
  | rest => pokn_tuple (all_cons pokn_str all_nil)
  | point s => pokn_tuple (all_cons pokn_str (all_cons pokn_str all_nil))
end Td
/-- x tells the motion t: a matter's text is a tree or an object -/
def TdAt (om : Om) (x : D) : Td → Prop
  | .matter t => ∃ y, x = .tup [.str "matter", y] ∧ Lr om y (t.map .str)
  | t => x = t.d
theorem TdAt.d {om : Om} : ∀ t : Td, TdAt om t.d t
  | .matter t => ⟨_, rfl, Lr.im⟩
  | .change _ => rfl | .mend _ => rfl | .putOff _ => rfl | .close => rfl | .lay => rfl | .rest => rfl | .point _ => rfl
/-- a motion as it is kept -/
inductive Mt where
  | matter (f t : List Str) (ch : List Ed) | change (e : Ed) | mend (e : Ed) | putOff (n : Int) | close | lay | rest | point (s : Str)
deriving DecidableEq
/-- the classes of the motions -/
structure Ka where
  (M C E P O L R T : Addr)
def Td.mk : Td → Mt
  | .matter t => .matter t t [] | .change e => .change e | .mend e => .mend e | .putOff n => .putOff n | .close => .close | .lay => .lay | .rest => .rest | .point s => .point s
namespace Mt
def td : Mt → Td
  | matter _ t _ => .matter t | change e => .change e | mend e => .mend e | putOff n => .putOff n | close => .close | lay => .lay | rest => .rest | point s => .point s
theorem td_mk (t : Td) : t.mk.td = t := by cases t <;> rfl
def rank (m : Mt) : Int := m.td.rank
def need : Mt → Str
  | close => "two thirds"
  | _ => "more"
def cls (κ : Ka) : Mt → Addr
  | matter _ _ _ => κ.M | change _ => κ.C | mend _ => κ.E | putOff _ => κ.P | close => κ.O | lay => κ.L | rest => κ.R | point _ => κ.T
def fs (q : Addr) : Mt → List (Str × D)
  | matter f t _ => [("first", .lst (f.map .str)), ("text", .lst (t.map .str)), ("changes", .obj q)]
  | change e => [("edit", e.d)]
  | mend e => [("edit", e.d)]
  | putOff n => [("sitting", .int n)]
  | close => [] | lay => [] | rest => []
  | point s => [("clause", .str s)]
def chs : Mt → Option (List Ed)
  | matter _ _ ch => some ch
  | _ => none
/-- the motion m stands at a, the changes of a matter at q -/
structure At (κ : Ka) (om : Om) (a q : Addr) (m : Mt) : Prop where
  o : om a = some (.ins (m.cls κ) (m.fs q))
  c : ∀ ch, m.chs = some ch → om q = some (.lst (ch.map Ed.d))
theorem At.keep {κ : Ka} {om om' : Om} {a q : Addr} {m : Mt} (h : At κ om a q m) (k : ∀ b o, (b = a ∨ b = q) → om b = some o → om' b = some o) : At κ om' a q m := ⟨k _ _ (.inl rfl) h.o, fun ch e => k _ _ (.inr rfl) (h.c ch e)⟩
theorem At.ext {κ : Ka} {om om' : Om} {a q : Addr} {m : Mt} (h : At κ om a q m) (k : Ext om om') : At κ om' a q m := h.keep fun b o _ => k b o
def isMatter : Mt → Bool
  | matter _ _ _ => true
  | _ => false
def mendable : Mt → Bool
  | change (.cut _) => false
  | change _ => true
  | _ => false
end Mt
theorem Ext.refl {om : Om} : Ext om om := fun _ _ h => h
theorem Ext.trans {a b c : Om} (h : Ext a b) (k : Ext b c) : Ext a c := fun x o e => k x o (h x o e)
/-- a def that tells a constant; one that keeps its argument as a field -/
def G_const (d : D) : Fs := fun ds om Q _ => ∃ x, ds = [x] ∧ Q d om
def G_set1 (C : Addr) (f : Str) : Fs := fun ds om Q _ => ∃ a x, ds = [.obj a, x] ∧ om a = some (.ins C []) ∧ Q .non (ups om a (.ins C [(f, x)]))
def G_told1 (C : Addr) (k f : Str) : Fs := fun ds om Q _ => ∃ a x, ds = [.obj a] ∧ om a = some (.ins C [(f, x)]) ∧ Q (.tup [.str k, x]) om
/-- the tree of a tuple that bears a new list -/
theorem tupL_v {X : Cx} {ro : Ro} {om : Om} {e : Expr} {x : D} {ds : List D} (h : ∀ (R : RX) (Q : DK), (∀ p, om p = none → Q (.tup [x, .obj p]) (ups om p (.lst ds))) → we X R ro om e Q) : wv X ro om e (.tup [x, .lst ds]) := .mk fun R Q q => .mk fun om0 H0 t σ H o => by
  refine pE_mono (h R (fun d om1 => ∃ p, d = .tup [x, .obj p] ∧ om p = none ∧ om1 = ups om p (.lst ds)) (fun p hp => ⟨p, rfl, hp, rfl⟩) om0 H0 t σ H o) fun v H1 ⟨d, om1, ⟨p, e1, e2, e3⟩, o1, r⟩ => ?_
  subst e1 e3
  obtain ⟨o2, r2⟩ := o1.tree (om1 := om) ups_same
  rw [dels_ups e2] at o2 r2
  refine ⟨_, _, q, o2, ?_⟩
  obtain ⟨a, xs, ev, hx, u, r', exs, ru, w, r'', exs2, rw', hn⟩ := r
  have dl : dels (ups om p (.lst ds)) p = om := dels_ups e2
  have st : Stable (ups om p (.lst ds)) H1 om H1 := by
    have z := Stable.del (om := ups om p (.lst ds)) (H := H1) (a := p)
    rw [dl] at z
    exact z
  cases rw'
  refine ⟨a, xs, ev, ?_, u, r', exs, ru.mono st, _, r'', exs2, r2, hn⟩
  rcases hx with ⟨n1, h1⟩ | hk
  · exact .inl ⟨(st a _ h1 n1).2, h1⟩
  · exact .inr hk
end Mo

set_option Elab.async false
set_option linter.all false
set_option maxRecDepth 100000
set_option maxHeartbeats 4000000
set_option autoImplicit false
/-! Comprehensions over mapped lists; the laws' streams of numbers and their words. -/
namespace Mo
open PySem PySem.Spec PyProof.Rows L2
section
variable {X : Cx} {ro : Ro} {om : Om} {elt iter : Expr} {scope : Scope} {pos : Pos}
theorem n_lcM {α : Type} {xs : List α} {f g : α → D} {Pm : Om → Prop} {xn : Str} {p : Pos} (i : Nat) {N : List Str} {sc : Scope} (hN : X.N = N) (hsc : X.env.scope = sc) (nd : X.N.Nodup) (hc : X.calm = true) (hb : blkB N sc scope [(xn, i)] = true) (hl : (scope.names.lookup xn == some .local) = true)
    (hi : Itd X ro om (.Name xn p) iter (xs.map f) Pm) (hP : ∀ om', Ext om om' → Pm om') (hz : xs.length ≤ 100000)
    (he : ∀ (j : Nat) (x : α), xs[j]? = some x → ∀ (s : Shared) (H : Hp) (C : Addr) (cl : List (Str × Addr)) (fp : List Addr) (om' : Om), Ext om om' → wv (X.blk s H scope (compEnvC scope cl C X.env) fp) ((ro.set i none).set i (some (f x))) om' elt (g x)) (hs : ∀ x, foldedSetIterable iter X.env x = pure x := by intro _; rfl) :
    wn X ro om (.ListComp elt [⟨.Name xn p, iter, [], 0⟩] scope pos) (xs.map g) := by
  refine n_lc1 i hN hsc nd hc hb hl hi hP (by rw [List.length_map, List.length_map]) (by rw [List.length_map]; exact hz) (fun j d z hd hzz => ?_) hs
  obtain ⟨x, hx, rfl⟩ := map_item hd
  obtain ⟨x', hx', rfl⟩ := map_item hzz
  rw [hx] at hx'
  cases hx'
  exact he j x hx
theorem Lo.lcM {α : Type} {xs : List α} {f g : α → D} {Pm : Om → Prop} {xn yn : Str} {p pos' spos : Pos} {F : De} {rest : List Stmt} {k : Nat} (i : Nat) {N : List Str} {sc : Scope} (l : Lo X k yn) (hN : X.N = N) (hsc : X.env.scope = sc) (nd : X.N.Nodup) (hc : X.calm = true) (hb : blkB N sc scope [(xn, i)] = true) (hl : (scope.names.lookup xn == some .local) = true) (hy : (sc.names.lookup yn == some .local) = true)
    (hi : Itd X ro om (.Name xn p) iter (xs.map f) Pm) (hP : ∀ om', Ext om om' → Pm om') (hz : xs.length ≤ 100000)
    (he : ∀ (j : Nat) (x : α), xs[j]? = some x → ∀ (s : Shared) (H : Hp) (C : Addr) (cl : List (Str × Addr)) (fp : List Addr) (om' : Om), Ext om om' → wv (X.blk s H scope (compEnvC scope cl C X.env) fp) ((ro.set i none).set i (some (f x))) om' elt (g x))
    (hsw : swapsWith (.ListComp elt [⟨.Name xn p, iter, [], 0⟩] scope pos) (some (.Name yn pos')) spos.line X.env = pure true) (kk : ∀ q, om q = none → ws X F (ro.set k (some (.obj q))) (ups om q (.lst (xs.map g))) rest) (hs : ∀ x, foldedSetIterable iter X.env x = pure x := by intro _; rfl) :
    ws X F ro om (.Assign [.Name yn pos'] (.ListComp elt [⟨.Name xn p, iter, [], 0⟩] scope pos) spos :: rest) := by
  refine Lo.lc1 i l hN hsc nd hc hb hl hy hi hP (zs := xs.map g) (by rw [List.length_map, List.length_map]) (by rw [List.length_map]; exact hz) (fun j d z hd hzz => ?_) hsw kk hs
  obtain ⟨x, hx, rfl⟩ := map_item hd
  obtain ⟨x', hx', rfl⟩ := map_item hzz
  rw [hx] at hx'
  cases hx'
  exact he j x hx
end
section
variable {X : Cx} {ro : Ro} {om : Om} {F : De} {pos : Pos}
/-- the loop over a list that the iterable makes -/
theorem w_forE {tg iter : Expr} {body : List Stmt} {g : TG} {U : D → Ro → Ro}
    (h : we X F.ex ro om iter fun x om1 => ∃ (ds : List D) (I : Nat → Ro → Om → Prop), Lr om1 x ds ∧ I 0 ro om1 ∧ (∀ i ro' om', I i ro' om' → Lr om' x ds) ∧ (∀ d, d ∈ ds → Tg X tg d (U d) g) ∧
      (∀ (i : Nat) (d : D) (ro' : Ro) (om' : Om), ds[i]? = some d → I i ro' om' → ws X { F with nx := I (i + 1), ct := I (i + 1), bk := F.nx } (U d ro') om' body) ∧ ∀ ro' om', I ds.length ro' om' → F.nx ro' om')
    (hg : PG X tg g) (hp : PassesOwn (model X.prog X.w) X.A X.env X.xe) (hc : X.calm = true) (hfo : ∀ x, foldedSetIterable iter X.env x = pure x := by intro _; rfl) : w1 X F ro om (.For tg iter body [] pos) := .mk fun om0 H0 t σ H o => by
  refine pS_of (ps_for hp hc pI_pi hg pSs_ps hfo) ?_
  have hi : pI X tg iter σ H fun J H1 => ∃ (om1 : Om) (x : D) (ds : List D) (I : Nat → Ro → Om → Prop), Ok X.K om0 H0 om1 H1 σ ro ∧ JOk X.K om1 H1 J ds (fun om2 => Lr om2 x ds) ∧ I 0 ro om1 ∧ (∀ i ro' om', I i ro' om' → Lr om' x ds) ∧ (∀ d, d ∈ ds → Tg X tg d (U d) g) ∧
      (∀ (i : Nat) (d : D) (ro' : Ro) (om' : Om), ds[i]? = some d → I i ro' om' → ws X { F with nx := I (i + 1), ct := I (i + 1), bk := F.nx } (U d ro') om' body) ∧ ∀ ro' om', I ds.length ro' om' → F.nx ro' om' := by
    refine pI_of (pi_list pE_pe) (pE_mono (h om0 H0 t σ H o) fun v H1 ⟨x, om1, ⟨ds, I, l, h0, hP, hT, hs, hd⟩, o1, r⟩ => ?_)
    obtain ⟨p, xs, rfl, h1, r1⟩ := l.rep o1.store r
    refine ⟨p, rfl, ⟨xs, SqL.of h1⟩, om1, x, ds, I, o1, fun om2 H2 S2 s2 l2 => ?_, h0, hP, hT, hs, hd⟩
    obtain ⟨p', xs', e', h2, r2⟩ := l2.rep S2 (r.mono s2)
    cases e'
    refine ⟨fun i d hi => ?_, ⟨xs', SqL.of h2, Nat.le_of_eq r2.length.symm⟩⟩
    obtain ⟨u, h3, r3⟩ := r2.get hi
    refine ⟨⟨xs', u, SqL.of h2, h3⟩, fun x' H3 ⟨e3, y3⟩ => ?_⟩
    subst e3
    have := y3 xs' (SqL.of h2)
    rw [h3] at this
    cases this
    exact ⟨S2, Stable.refl, r3⟩
  refine fun pins s I' => wpAny_mono (hi pins s I') (fun v s1 h1 => thn h1 fun itv s2 ⟨it, fp, tn, J, H2, e2, I2, T2, st2, f2, om1, x, ds, I, o2, j2, h0, hP, hT, hs, hd⟩ => ?_) (fun _ _ x => x)
  refine ⟨it, fp, tn, J, H2, e2, I2, T2, st2, f2, fun i m σ' H' => m = ds.length - i ∧ i ≤ ds.length ∧ ∃ ro' om', I i ro' om' ∧ Ok X.K om0 H0 om' H' σ' ro' ∧ Stable om1 H2 om' H', ⟨ds.length, by simp, Nat.zero_le _, ro, om1, h0, o2, Stable.refl⟩, ?_⟩
  rintro i m σ3 H3 ⟨rfl, hle, ro3, om3, i3, o3, s3⟩
  obtain ⟨jg, js⟩ := j2 om3 H3 o3.store s3 (hP _ _ _ i3)
  by_cases hlt : i < ds.length
  · refine .inr ⟨(jg i ds[i] (List.getElem?_eq_getElem hlt)).1, fun σ' H' => ∃ ro' om', I (i + 1) ro' om' ∧ Ok X.K om0 H0 om' H' σ' ro' ∧ Stable om1 H2 om' H', fun σ' H' ⟨ro', om', q1, q2, q3⟩ => ⟨ds.length - (i + 1), by omega, rfl, hlt, ro', om', q1, q2, q3⟩, fun x' H4 y4 => ?_⟩
    obtain ⟨S4, s4, r4⟩ := (jg i ds[i] (List.getElem?_eq_getElem hlt)).2 x' H4 y4
    have o4 : Ok X.K om0 H0 om3 H4 σ3 ro3 := o3.to S4 s4
    refine hT ds[i] (List.getElem_mem hlt) om0 H0 om3 H4 σ3 ro3 x' _ o4 r4 fun σ5 o5 => ?_
    have hb := hs i ds[i] ro3 om3 (List.getElem?_eq_getElem hlt) i3 om3 H4 (t.at o5.stab) σ5 H4 ⟨o5.store, Stable.refl, o5.slot, o5.len⟩
    refine pSs_mono hb ⟨fun σ6 H6 ⟨ro6, om6, q6, o6⟩ => ⟨ro6, om6, q6, ⟨o6.store, o5.stab.trans o6.stab, o6.slot, o6.len⟩, (s3.trans s4).trans o6.stab⟩, fun v6 H6 ⟨d6, om6, q6, S6, s6, r6⟩ => ⟨d6, om6, q6, S6, o5.stab.trans s6, r6⟩,
      fun σ6 H6 ⟨ro6, om6, q6, o6⟩ => ⟨ro6, om6, q6, ⟨o6.store, o5.stab.trans o6.stab, o6.slot, o6.len⟩⟩, fun σ6 H6 ⟨ro6, om6, q6, o6⟩ => ⟨ro6, om6, q6, ⟨o6.store, o5.stab.trans o6.stab, o6.slot, o6.len⟩, (s3.trans s4).trans o6.stab⟩⟩
  · have ei : i = ds.length := by omega
    subst ei
    exact .inl ⟨js, ro3, om3, hd _ _ i3, o3⟩
/-- .. within a block -/
theorem st_forE {tg iter : Expr} {body : List Stmt} {g : TG} {U : D → Ro → Ro} {rest : List Stmt}
    (h : we X F.ex ro om iter fun x om1 => ∃ (ds : List D) (I : Nat → Ro → Om → Prop), Lr om1 x ds ∧ I 0 ro om1 ∧ (∀ i ro' om', I i ro' om' → Lr om' x ds) ∧ (∀ d, d ∈ ds → Tg X tg d (U d) g) ∧
      (∀ (i : Nat) (d : D) (ro' : Ro) (om' : Om), ds[i]? = some d → I i ro' om' → ws X { F with nx := I (i + 1), ct := I (i + 1), bk := fun ro' om' => ws X F ro' om' rest } (U d ro') om' body) ∧ ∀ ro' om', I ds.length ro' om' → ws X F ro' om' rest)
    (hg : PG X tg g) (hp : PassesOwn (model X.prog X.w) X.A X.env X.xe) (hc : X.calm = true) (hfo : ∀ x, foldedSetIterable iter X.env x = pure x := by intro _; rfl) : ws X F ro om (.For tg iter body [] pos :: rest) :=
  ws_cons (w_forE (F := { F with nx := fun ro' om' => ws X F ro' om' rest }) h hg hp hc hfo)
end
section
variable {X : Cx} {R : RX} {ro : Ro} {om : Om} {a b e : Expr} {es : List Expr} {pos : Pos} {F : De}
/-- and, or, of any effect, as tests -/
structure wbe (X : Cx) (R : RX) (ro : Ro) (om : Om) (op : BoolOp) (es : List Expr) (pos : Pos) (Q : Bool → Om → Prop) : Prop where
  go : ∀ (om0 : Om) (H0 : Hp), Tk X om0 H0 R → ∀ (σ : L2.St) (H : Hp), Ok X.K om0 H0 om H σ ro → pW X (.BoolOp op es pos) σ H fun k' H' => ∃ om', Q k' om' ∧ Ok X.K om0 H0 om' H' σ ro
theorem t_boolE {op : BoolOp} {Q : Bool → Om → Prop} (h : wbe X R ro om op es pos Q) : wt X R ro om (.BoolOp op es pos) Q := .mk fun om0 H0 t σ H o =>
  pT_of (PW.pt pW_pw) (pW_mono (h.go om0 H0 t σ H o) fun k' H' q => q)
theorem be_or1 {Q : Bool → Om → Prop} (h : wt X R ro om a Q) : wbe X R ro om .Or [a] pos Q := .mk fun om0 H0 t σ H o => pW_of (pw_or1 pT_pt) (h om0 H0 t σ H o)
theorem be_and1 {Q : Bool → Om → Prop} (h : wt X R ro om a Q) : wbe X R ro om .And [a] pos Q := .mk fun om0 H0 t σ H o => pW_of (pw_and1 pT_pt) (h om0 H0 t σ H o)
theorem be_or {Q : Bool → Om → Prop} (h : wt X R ro om a fun k om1 => (k = true → Q true om1) ∧ (k = false → wbe X R ro om1 .Or (b :: es) pos Q)) : wbe X R ro om .Or (a :: b :: es) pos Q := .mk fun om0 H0 t σ H o => by
  refine pW_of (pw_or pT_pt pW_pw) (pT_mono (h om0 H0 t σ H o) fun k H1 ⟨om1, ⟨h1, h2⟩, o1⟩ => ?_)
  cases k with
  | true => exact ⟨om1, h1 rfl, o1⟩
  | false => exact pW_mono ((h2 rfl).go om1 H1 (t.at o1.stab) σ H1 ⟨o1.store, Stable.refl, o1.slot, o1.len⟩) fun k' H' ⟨om2, q, o2⟩ => ⟨om2, q, o2.store, o1.stab.trans o2.stab, o2.slot, o2.len⟩
theorem be_and {Q : Bool → Om → Prop} (h : wt X R ro om a fun k om1 => (k = false → Q false om1) ∧ (k = true → wbe X R ro om1 .And (b :: es) pos Q)) : wbe X R ro om .And (a :: b :: es) pos Q := .mk fun om0 H0 t σ H o => by
  refine pW_of (pw_and pT_pt pW_pw) (pT_mono (h om0 H0 t σ H o) fun k H1 ⟨om1, ⟨h1, h2⟩, o1⟩ => ?_)
  cases k with
  | false => exact ⟨om1, h1 rfl, o1⟩
  | true => exact pW_mono ((h2 rfl).go om1 H1 (t.at o1.stab) σ H1 ⟨o1.store, Stable.refl, o1.slot, o1.len⟩) fun k' H' ⟨om2, q, o2⟩ => ⟨om2, q, o2.store, o1.stab.trans o2.stab, o2.slot, o2.len⟩
theorem t_notE {Q : Bool → Om → Prop} (h : wt X R ro om e fun k om1 => Q (!k) om1) : wt X R ro om (.UnaryOp .Not e pos) Q := .mk fun om0 H0 t σ H o => by
  refine pT_of (pt_not pT_pt) ?_
  exact pT_mono (h om0 H0 t σ H o) fun k' H1 ⟨om1, q, o1⟩ => ⟨om1, q, o1⟩
theorem st_ifE {c : Expr} {sa sb rest : List Stmt} (h : wt X F.ex ro om c fun k om' => (k = true → ws X { F with nx := fun ro' om' => ws X F ro' om' rest } ro om' sa) ∧ (k = false → ws X { F with nx := fun ro' om' => ws X F ro' om' rest } ro om' sb)) : ws X F ro om (.If c sa sb pos :: rest) := ws_cons (s_ifE h)
end
theorem ne_so {om : Om} {a b : Addr} {o : DO} (h : om a = some o) (k : om b = none) : a ≠ b := fun e => by subst e; rw [h] at k; cases k
/-! the numbers -/
def strm (c : Int) : Nat → Int
  | 0 => c % 4294967311 + 48271
  | k + 1 => (strm c k * strm c k + 69621 * strm c k + k) % 4294967311
theorem strm_succ {c : Int} {k : Nat} : strm c (k + 1) = (strm c k * strm c k + 69621 * strm c k + k) % 4294967311 := rfl
theorem strm_ge (c : Int) (k : Nat) : 0 ≤ strm c k := by
  cases k with
  | zero => show 0 ≤ c % 4294967311 + 48271; omega
  | succ k => rw [strm_succ]; omega
theorem strm_lt (c : Int) (k : Nat) : strm c k < 4295015582 := by
  cases k with
  | zero => show c % 4294967311 + 48271 < _; omega
  | succ k => rw [strm_succ]; omega
def streamA (c : Int) (n : Nat) : List Int := (List.range n).map fun k => strm c (k + 1)
def streamL (c : Int) (n : Nat) : List Int := (streamA c (n + 1)).drop 1
theorem streamA_succ (c : Int) (n : Nat) : streamA c (n + 1) = streamA c n ++ [strm c (n + 1)] := by
  unfold streamA
  rw [List.range_succ, List.map_append]
  rfl
theorem streamA_len (c : Int) (n : Nat) : (streamA c n).length = n := by unfold streamA; rw [List.length_map, List.length_range]
theorem streamL_len (c : Int) (n : Nat) : (streamL c n).length = n := by unfold streamL; rw [List.length_drop, streamA_len]; rfl
theorem streamL_at (c : Int) {n k : Nat} (h : k < n) : (streamL c n)[k]? = some (strm c (k + 2)) := by
  unfold streamL streamA
  rw [List.getElem?_drop, List.getElem?_map, List.getElem?_range (by omega), show 1 + k = k + 1 by omega]
  rfl
theorem streamL_bd {c : Int} {n : Nat} {z : Int} (h : z ∈ streamL c n) : 0 ≤ z ∧ z < 4295015582 := by
  unfold streamL streamA at h
  obtain ⟨k, _, rfl⟩ := List.mem_map.mp (List.mem_of_mem_drop h)
  exact ⟨strm_ge c _, strm_lt c _⟩
/-! the words -/
def sgB : Str := "!\"#$&'()*+,-./0123456789:;<=>?@ABCDEFGHIJKLMNOPQRSTUVWXYZ[\\]^_`abcdefghijklmnopqrstuvwxyz{|}~"
def sg2 (i : Int) : Nat := sgB.cps.toList.getD i.toNat 0
theorem sgB_len : sgB.cps.toList.length = 93 := by decide +kernel
theorem sg2_at {i : Int} (h0 : 0 ≤ i) (h1 : i < 93) : atI sgB.cps.toList i = some (sg2 i) := by
  have hl := sgB_len
  have e : i = (i.toNat : Int) := by omega
  have hi : i.toNat < sgB.cps.toList.length := by omega
  unfold sg2
  rw [e, Int.toNat_natCast, List.getD_eq_getElem?_getD, List.getElem?_eq_getElem hi]
  exact atI_nat (List.getElem?_eq_getElem hi)
theorem sgB_ok : sgB.cps.toList.all (fun c => decide (33 ≤ c ∧ c ≤ 126 ∧ c ≠ 37)) = true := by decide +kernel
theorem sg2_in (i : Int) (h0 : 0 ≤ i) (h1 : i < 93) : 33 ≤ sg2 i ∧ sg2 i ≤ 126 ∧ sg2 i ≠ 37 := by
  have hl := sgB_len
  have hi : i.toNat < sgB.cps.toList.length := by omega
  have := List.all_eq_true.mp sgB_ok (sgB.cps.toList[i.toNat]) (List.getElem_mem hi)
  unfold sg2
  rw [List.getD_eq_getElem?_getD, List.getElem?_eq_getElem hi]
  exact of_decide_eq_true this
def fewW : List Str := ["-", "put", "/a", "0", "off", "//", "matter", "a"]
def fewN (d : Int) : Str := fewW.getD (d / 4 % 8).toNat "-"
def sizeW (d : Int) : Int := 1 + d / 4 % (if d / 80 % 2 = 0 then 4 else 20)
def rawW (d : Int) : Str := Txt.join "" ((streamL (d / 160) (sizeW d).toNat).map fun z => chr1 (sg2 (z % 93)))
def wordB (d : Int) : Str := if d % 4 = 1 then fewN d else if rawW d = "/" then "-" else rawW d
theorem sizeW_bd (d : Int) : 1 ≤ sizeW d ∧ sizeW d ≤ 20 := by
  unfold sizeW
  split <;> omega
theorem joinL_one : ∀ cs : List Nat, TL.joinL [] (cs.map fun c => [c]) = cs
  | [] => rfl
  | [c] => rfl
  | c :: d :: r => by
    have ih := joinL_one (d :: r)
    rw [List.map_cons] at ih ⊢
    show [c] ++ [] ++ TL.joinL [] (List.map (fun c => [c]) (d :: r)) = _
    rw [joinL_one (d :: r)]
    rfl
theorem tl_raw (d : Int) : TL.tl (rawW d) = (streamL (d / 160) (sizeW d).toNat).map fun z => sg2 (z % 93) := by
  unfold rawW
  rw [TL.join_eq, TL.tl_join, tl_empty, List.map_map]
  have e : (TL.tl ∘ fun z : Int => chr1 (sg2 (z % 93))) = (fun c => [c]) ∘ fun z => sg2 (z % 93) := rfl
  rw [e, ← List.map_map, joinL_one]
theorem raw_len (d : Int) : (rawW d).length = (sizeW d).toNat := by rw [len_tl, tl_raw, List.length_map, streamL_len]
theorem IsWord.dash : IsWord "-" := ⟨by decide +kernel, by decide +kernel, by decide +kernel, by decide +kernel⟩
theorem wordB_ok (d : Int) : IsWord (wordB d) := by
  unfold wordB
  split
  · have h8 : ∀ j : Fin 8, (fewW.getD j.val "-").length ≥ 1 ∧ (fewW.getD j.val "-").length ≤ 20 ∧ (∀ c ∈ TL.tl (fewW.getD j.val "-"), 33 ≤ c ∧ c ≤ 126 ∧ c ≠ 37) ∧ fewW.getD j.val "-" ≠ "/" := by decide +kernel
    obtain ⟨h1, h2, h3, h4⟩ := h8 ⟨(d / 4 % 8).toNat, by omega⟩
    exact ⟨h1, h2, h3, h4⟩
  · split
    · exact IsWord.dash
    · rename_i hne
      have hb := sizeW_bd d
      refine ⟨by rw [raw_len]; omega, by rw [raw_len]; omega, fun c hc => ?_, hne⟩
      rw [tl_raw] at hc
      obtain ⟨z, _, rfl⟩ := List.mem_map.mp hc
      exact sg2_in _ (by omega) (by omega)
def clauseB (d : Int) : List Str := (streamL (d / 4) (d % 4).toNat).map wordB
theorem clauseB_ok (d : Int) : ∀ x ∈ clauseB d, IsWord x := fun x h => by
  obtain ⟨z, _, rfl⟩ := List.mem_map.mp h
  exact wordB_ok z
theorem words_sum {ws : List Str} (h : ∀ x ∈ ws, IsWord x) : (ws.map (·.length)).sum + ws.length ≤ ws.length * 21 := by
  have := sum_le (f := fun s : Str => s.length) (m := 20) (l := ws) fun x hx => (h x hx).hi
  omega
end Mo

set_option Elab.async false
set_option linter.all false
set_option maxRecDepth 100000
set_option maxHeartbeats 4000000
set_option autoImplicit false
/-! Comprehensions whose elements make objects; joins of ways; list.index. -/
namespace Mo
open PySem PySem.Spec PyProof.Rows L2
theorem Ext.del {om om' : Om} (h : Ext om om') (a : Addr) : Ext (dels om a) (dels om' a) := fun b o e => by
  by_cases z : b = a
  · subst z; rw [dels_same] at e; cases e
  · rw [dels_ne z] at e ⊢
    exact h b o e
theorem Ext.of_del {om : Om} {a : Addr} : Ext (dels om a) om := fun b o e => by
  by_cases z : b = a
  · subst z; rw [dels_same] at e; cases e
  · rw [dels_ne z] at e
    exact e
theorem dels_ups2 {om : Om} {a : Addr} {o : DO} : dels (ups om a o) a = dels om a := by
  funext b
  by_cases z : b = a
  · subst z; rw [dels_same, dels_same]
  · rw [dels_ne z, dels_ne z, ups_ne z]
section
variable {X : Cx} {R : RX} {F : De} {ro : Ro} {om : Om} {elt iter : Expr} {scope : Scope} {pos : Pos}
theorem lc_rdE {ds : List D} {Pm : Om → Prop} {xn : Str} {p : Pos} (i : Nat) (Iv : Nat → List D → Om → Prop) (hi : Itd X ro om (.Name xn p) iter ds Pm) (hP : ∀ om', Ext om om' → Pm om') (hz : ds.length ≤ 100000) (h0 : Iv 0 [] om)
    (he : ∀ (j : Nat) (d : D) (zs : List D) (om' : Om) (Dl : Addr), ds[j]? = some d → zs.length = j → om Dl = none → om' Dl = some (.lst zs) → Ext om om' → Iv j zs (dels om' Dl) →
      ∀ (s : Shared) (H : Hp) (C : Addr) (cl : List (Str × Addr)) (fp : List Addr), we (X.blk s H scope (compEnvC scope cl C X.env) fp) (fun _ _ _ _ => False) ((ro.set i none).set i (some d)) om' elt fun z om'' => Ext om' om'' ∧ Iv (j + 1) (zs ++ [z]) (dels om'' Dl))
    {om0 : Om} {H0 : Hp} (t : Tk X om0 H0 R) {σ : L2.St} {H : Hp} (o : Ok X.K om0 H0 om H σ ro) {Qv : VK} (q : ∀ Dl zs om' H', om Dl = none → om' Dl = some (.lst zs) → zs.length = ds.length → Ext om om' → Iv ds.length zs (dels om' Dl) → Ok X.K om0 H0 om' H' σ ro → Qv (.ref Dl) H') :
    tLc (pI X (.Name xn p) iter) (gName i) tYes (fun σ2 H2 Q2 => ∀ s H C cl fp, pE (X.blk s H scope (compEnvC scope cl C X.env) fp) elt σ2 H2 Q2) ([(xn, i)].map (·.2)) σ H Qv := by
  refine fun pins s I => wpAny_mono (hi R om0 H0 t σ H o pins s I) (fun v s1 h1 => thn h1 fun itv s2 ⟨it, fp, tn, J, H2, e2, I2, T2, st2, f2, o2, j2⟩ => ?_) (fun _ _ x => x)
  refine ⟨it, fp, tn, J, H2, e2, I2, T2, st2, f2, fun Dl hD => ?_⟩
  have hDo : om Dl = none := o2.store.fresh hD
  have d0 : dels (ups om Dl (.lst [])) Dl = om := dels_ups hDo
  refine ⟨fun k m H' => m = ds.length - k ∧ k ≤ ds.length ∧ ∃ zs om', zs.length = k ∧ om' Dl = some (.lst zs) ∧ Ext om om' ∧ Iv k zs (dels om' Dl) ∧ Ok X.K om0 H0 om' H' σ ro ∧ Stable om H2 om' H',
    ⟨ds.length, by simp, Nat.zero_le _, [], ups om Dl (.lst []), rfl, ups_same, Ext.ups hDo, by rw [d0]; exact h0, o2.newl hD rfl, Stable.mk hD⟩, ?_⟩
  rintro k m H3 ⟨rfl, hle, zs, om', hzl, hom, hex, hiv, o3, s3⟩
  have j3 := j2 om' H3 o3.store s3 (hP _ hex)
  by_cases hlt : k < ds.length
  · refine .inr ⟨(j3.1 k ds[k] (List.getElem?_eq_getElem hlt)).1, fun H' => ∃ zs om', zs.length = k + 1 ∧ om' Dl = some (.lst zs) ∧ Ext om om' ∧ Iv (k + 1) zs (dels om' Dl) ∧ Ok X.K om0 H0 om' H' σ ro ∧ Stable om H2 om' H',
      fun H' ⟨zs', om'', q1, q2, q3, q4, q5, q6⟩ => ⟨ds.length - (k + 1), by omega, rfl, hlt, zs', om'', q1, q2, q3, q4, q5, q6⟩, fun x' H4 y4 => ?_⟩
    obtain ⟨S4, s4, r4⟩ := (j3.1 k ds[k] (List.getElem?_eq_getElem hlt)).2 x' H4 y4
    have o4 := o3.to S4 s4
    refine lc_hU (xn := xn) σ x' H4 _ (tg_name i (X := X) (tg := .Name xn p) om0 H0 om' H4 (L2.wipe σ ([(xn, i)].map (·.2))) (wipeD ro ([(xn, i)].map (·.2))) x' _ (o4.wipe _) r4 fun σ5 o5 => ?_)
    unfold tYes
    simp only [if_true]
    intro s' H' C cl fp'
    have we5 := he k ds[k] zs om' Dl (List.getElem?_eq_getElem hlt) hzl hDo hom hex hiv s' H' C cl fp'
    refine pE_mono (we5 om' H4 Tk.no σ5 H4 ⟨o5.store, Stable.refl, o5.slot, o5.len⟩) fun v6 H6 ⟨d6, om6, ⟨x6, iv6⟩, o6, r6⟩ => ?_
    have hom6 : om6 Dl = some (.lst zs) := x6 _ _ hom
    obtain ⟨xs6, hx6, rD6⟩ := o6.store Dl _ hom6
    have St6 : Stable om6 H6 (ups om6 Dl (.lst (zs ++ [d6]))) (upd H6 Dl (.lst (xs6 ++ [v6]))) := Stable.put hom6
    have So6 : StoreOk X.K (ups om6 Dl (.lst (zs ++ [d6]))) (upd H6 Dl (.lst (xs6 ++ [v6]))) := o6.store.put hom6 ⟨_, upd_same, (rD6.app (RepL.one r6)).mono St6⟩
    refine ⟨xs6, hx6, ?_, zs ++ [d6], ups om6 Dl (.lst (zs ++ [d6])), by simp [hzl], ups_same, fun b o e => ?_, ?_, (o4.to o6.store o6.stab).to So6 St6, ((s3.trans s4).trans o6.stab).trans St6⟩
    · rw [← rD6.length, hzl]
      have : sizeLine = 16777216 := sizeLine_eq
      omega
    · rw [ups_ne (ne_so e hDo)]
      exact x6 _ _ (hex _ _ e)
    · rw [dels_ups2]
      exact iv6
  · have ei : k = ds.length := by omega
    subst ei
    exact .inl ⟨j3.2, q Dl zs om' _ hDo hom hzl hex hiv o3⟩
/-- .. the elements of any effect that keeps what was there -/
theorem e_lcE {Q : DK} {ds : List D} {Pm : Om → Prop} {xn : Str} {p : Pos} (i : Nat) {N : List Str} {sc : Scope} (hN : X.N = N) (hsc : X.env.scope = sc) (nd : X.N.Nodup) (hc : X.calm = true) (hb : blkB N sc scope [(xn, i)] = true) (hl : (scope.names.lookup xn == some .local) = true)
    (Iv : Nat → List D → Om → Prop) (hi : Itd X ro om (.Name xn p) iter ds Pm) (hP : ∀ om', Ext om om' → Pm om') (hz : ds.length ≤ 100000) (h0 : Iv 0 [] om)
    (he : ∀ (j : Nat) (d : D) (zs : List D) (om' : Om) (Dl : Addr), ds[j]? = some d → zs.length = j → om Dl = none → om' Dl = some (.lst zs) → Ext om om' → Iv j zs (dels om' Dl) →
      ∀ (s : Shared) (H : Hp) (C : Addr) (cl : List (Str × Addr)) (fp : List Addr), we (X.blk s H scope (compEnvC scope cl C X.env) fp) (fun _ _ _ _ => False) ((ro.set i none).set i (some d)) om' elt fun z om'' => Ext om' om'' ∧ Iv (j + 1) (zs ++ [z]) (dels om'' Dl))
    (q : ∀ Dl zs om', om Dl = none → om' Dl = some (.lst zs) → zs.length = ds.length → Ext om om' → Iv ds.length zs (dels om' Dl) → Q (.obj Dl) om') (hs : ∀ x, foldedSetIterable iter X.env x = pure x := by intro _; rfl) : we X R ro om (.ListComp elt [⟨.Name xn p, iter, [], 0⟩] scope pos) Q := .mk fun om0 H0 t σ H o => by
  have ok : BlkOk X.N X.env.scope scope [(xn, i)] := blk_ok hN hsc hb
  exact pE_of (pe_lc hc nd pI_pi ok (lc_hg nd (ok.ix (xn, i) List.mem_cons_self) hl) (fun _ _ _ _ _ => pts_nil) (fun s H C cl fp => ⟨fun pins s' σ' H' Q' I h => h s H C cl fp pins s' I⟩) hs)
    (lc_rdE i Iv hi hP hz h0 he t o fun Dl zs om' H' h1 h2 h3 h4 h5 o' => ⟨_, _, q Dl zs om' h1 h2 h3 h4 h5, o', rfl⟩)
/-- name = [.. for ..], such -/
theorem Lo.lcE {rest : List Stmt} {ds : List D} {Pm : Om → Prop} {xn yn : Str} {p pos' spos : Pos} {k : Nat} (i : Nat) {N : List Str} {sc : Scope} (l : Lo X k yn) (hN : X.N = N) (hsc : X.env.scope = sc) (nd : X.N.Nodup) (hc : X.calm = true) (hb : blkB N sc scope [(xn, i)] = true) (hl : (scope.names.lookup xn == some .local) = true) (hy : (sc.names.lookup yn == some .local) = true)
    (Iv : Nat → List D → Om → Prop) (hi : Itd X ro om (.Name xn p) iter ds Pm) (hP : ∀ om', Ext om om' → Pm om') (hz : ds.length ≤ 100000) (h0 : Iv 0 [] om)
    (he : ∀ (j : Nat) (d : D) (zs : List D) (om' : Om) (Dl : Addr), ds[j]? = some d → zs.length = j → om Dl = none → om' Dl = some (.lst zs) → Ext om om' → Iv j zs (dels om' Dl) →
      ∀ (s : Shared) (H : Hp) (C : Addr) (cl : List (Str × Addr)) (fp : List Addr), we (X.blk s H scope (compEnvC scope cl C X.env) fp) (fun _ _ _ _ => False) ((ro.set i none).set i (some d)) om' elt fun z om'' => Ext om' om'' ∧ Iv (j + 1) (zs ++ [z]) (dels om'' Dl))
    (hsw : swapsWith (.ListComp elt [⟨.Name xn p, iter, [], 0⟩] scope pos) (some (.Name yn pos')) spos.line X.env = pure true)
    (kk : ∀ Dl zs om', om Dl = none → om' Dl = some (.lst zs) → zs.length = ds.length → Ext om om' → Iv ds.length zs (dels om' Dl) → ws X F (ro.set k (some (.obj Dl))) om' rest) (hs : ∀ x, foldedSetIterable iter X.env x = pure x := by intro _; rfl) :
    ws X F ro om (.Assign [.Name yn pos'] (.ListComp elt [⟨.Name xn p, iter, [], 0⟩] scope pos) spos :: rest) := ws_cons <| .mk fun om0 H0 t σ H o => by
  have ok : BlkOk X.N X.env.scope scope [(xn, i)] := blk_ok hN hsc hb
  exact pS_of (ps_setLc hc nd l.at_ (by rw [hsc]; exact beq_iff_eq.mp hy) hsw pI_pi ok (lc_hg nd (ok.ix (xn, i) List.mem_cons_self) hl) (fun _ _ _ _ _ => pts_nil) (fun s H C cl fp => ⟨fun pins s' σ' H' Q' I h => h s H C cl fp pins s' I⟩) hs)
    (lc_rdE i Iv hi hP hz h0 he t o fun Dl zs om' H' h1 h2 h3 h4 h5 o' => ⟨_, _, kk Dl zs om' h1 h2 h3 h4 h5, o'.set k rfl⟩)
/-- a statement, what holds behind it, the rest -/
theorem ws_seq {st : Stmt} {rest : List Stmt} (I : Ro → Om → Prop) (h : w1 X { F with nx := I } ro om st) (k : ∀ ro' om', I ro' om' → ws X F ro' om' rest) : ws X F ro om (st :: rest) :=
  ws_cons (w1_mono h ⟨fun ro om q => k ro om q, fun _ _ q => q, fun _ _ q => q, fun _ _ q => q, fun _ _ _ _ q => q⟩)
/-- x.index(s), among texts -/
theorem v_index {o e : Expr} {x : D} {ss : List Str} {j : Nat} {s : Str} {apos cpos : Pos} (h : wv X ro om o x) (l : Lr om x (ss.map .str)) (k : wv X ro om e (.str s)) (hj : ss[j]? = some s) (hn : ∀ m, m < j → ss[m]? ≠ some s) (hbase : attributeBase o "index" X.env (eval o X.env) = eval o X.env := by rfl)
    (hfew : ((backTo cpos (starEach [e] X.env)).all (fun x => !x.1) && (backToKw cpos (keywordEach [] X.env)).all (fun x => x.1.isSome) && decide ([e].length + ([] : List Keyword).length + (if ([] : List Keyword).isEmpty then 0 else 1) < 30)) = true := by rfl)
    (hline : (apos.endLine == cpos.line) = true := by rfl) (hs : starEach [e] X.env = (false, eval e X.env) :: starEach [] X.env := by rfl) (hplain : (backTo cpos (starEach [] X.env)).any (·.1) = false := by rfl) :
    wv X ro om (.Call (.Attribute o "index" apos) [e] [] cpos) (.int j) := .mk fun R Q q =>
  e_bm PySem.F.plainAttrs_list PySem.F.slot_list_index PySem.F.type_list_index (h R _ ⟨.lst l, a_cons (k R _ (a_nil fun om0 H0 σ ro H v vs o r rv => by
    obtain ⟨u, rfl, ru⟩ := one_rep rv
    cases ru
    obtain ⟨p, xs, rfl, h1, r1⟩ := l.rep o.store r
    cases r1.strs
    refine wM_of mt_index ⟨p, _, .str s, j, .str s, rfl, rfl, SqL.of h1, rfl, ?_, ?_, ?_, ?_, _, _, q, o, rfl⟩
    · rw [List.all_map]
      exact List.all_eq_true.mpr fun _ _ => rfl
    · rw [List.getElem?_map, hj]; rfl
    · show (s == s) = true
      exact beq_self_eq_true s
    · intro m z hm hz
      obtain ⟨t, ht, rfl⟩ := map_item hz
      show (t == s) = false
      refine beq_eq_false_iff_ne.mpr fun e => hn m hm ?_
      rw [ht, e])) hs⟩) hbase hfew hline hs hplain
end
end Mo

set_option Elab.async false
set_option linter.all false
set_option maxRecDepth 100000
set_option maxHeartbeats 4000000
set_option autoImplicit false
/-! enumerate over a list, over a tuple; constants of the module that are tuples of texts. -/
namespace Mo
open PySem PySem.Spec PyProof.Rows L2
theorem meets_enumB1 {v : Value} {o : Obj} {H : Heap → Prop} (B : Begins v o H) :
    Meets (Builtin.«enumerate.__new__» ⟨[.type "enumerate", v], []⟩) (fun _ R s => H s.heap ∧
      R (.ok (.ret (.ref (s.heap.push o).objs.size))) { s with heap := (s.heap.push o).push { cls := .type "enumerate", data := .fields #[.none, .bool false, .ref s.heap.objs.size, rawInt 0, .none, .none] } }) :=
  .of_wp fun prog w A R s h => by
    obtain ⟨hp, g, d, tk, os⟩ := s; obtain ⟨h1, h⟩ := h
    have hsub := sub_enumerate
    have q1 : ∀ {A' : Around} {E : Value → Shared → Prop} {Q : Value → Shared → Prop}, Q (.ref hp.objs.size) ⟨hp.push o, g, d, tk, os⟩ → wpAny (model prog w) A' (pyIter v) Q E ⟨hp, g, d, tk, os⟩ :=
      fun q => B.iter prog w _ _ ⟨hp, g, d, tk, os⟩ _ h1 q
    wp_walk using q1
    refine wpAny_stack_any fun st => wpAny_pure ?_
    split
    · rename_i c _ _ _ _ _
      cases (c == Value.type "enumerate")
      · wp_walk using q1
        exact ⟨_, rfl, h⟩
      · wp_walk using q1
        exact ⟨_, rfl, h⟩
    · wp_walk using q1
      exact ⟨_, rfl, h⟩
section
variable {prog : Program} {w : World} {A : Around} {E : Value → Shared → Prop} {s : Shared}
theorem enum_beginsB1 {v : Value} {o : Obj} {H : Heap → Prop} {Q : Value → Shared → Prop} (B : Begins v o H) (h1 : H s.heap)
    (h : ∀ h', IsEnum h' (s.heap.objs.size + 1) s.heap.objs.size 0 .none → h'.get? s.heap.objs.size = some o → h'.objs.size = s.heap.objs.size + 2 →
      (∀ b o, s.heap.get? b = some o → h'.get? b = some o) → Q (.ref (s.heap.objs.size + 1)) { s with heap := h' }) :
    wpAny (model prog w) A (call (.type "enumerate") [v]) Q E s := by
  refine callType_new F.called_enumerate (by decide) (F.typeCall_enumerate_1 _) (F.newCall_enumerate_1 _) (fun obj => F.args_object_init_2 obj _) F.entry_enumerate_new
    (meets_enumB1 B) ⟨h1, ?_⟩
  have hz : (s.heap.push o).objs.size = s.heap.objs.size + 1 := Heap.size_push ..
  show _ ∧ _
  rw [hz]
  have he : IsEnum ((s.heap.push o).push { cls := .type "enumerate", data := .fields #[.none, .bool false, .ref s.heap.objs.size, rawInt 0, .none, .none] }) (s.heap.objs.size + 1) s.heap.objs.size 0 .none := by
    have := Heap.get?_push_size (s.heap.push o) (o := { cls := .type "enumerate", data := .fields #[.none, .bool false, .ref s.heap.objs.size, rawInt 0, .none, .none] }) rfl
    rw [hz] at this; exact this
  refine ⟨⟨_, he, rfl⟩, h _ he (Heap.get?_push_of_some _ (Heap.get?_push_size _ B.free)) (by rw [Heap.size_push, hz]) fun b o x => Heap.get?_push_of_some _ (Heap.get?_push_of_some _ x)⟩
end
/-- the tuple at a as it stands at each turn, each item in a new pair -/
def ItEt (K : PySem.W.Frag) (a : Addr) : It :=
  ⟨fun i H => ∃ (xs : List V) (x : V), SqT K H a xs ∧ xs[i]? = some x, fun i H v H' => ∃ T x, v = .ref T ∧ H T = none ∧ H' = upd H T (.tup [.int (i : Nat), x]) ∧ ∀ xs, SqT K H a xs → xs[i]? = some x, fun i H => ∃ xs : List V, SqT K H a xs ∧ xs.length = i⟩
theorem turn_enumT {P : Program} {w : World} {K : PySem.W.Frag} {elts : List Expr} {kk : Nat} {tpos : Pos} (a e it : Addr) :
    Turn P w K (.Tuple elts kk tpos) (ItEt K a) [e, it] e (fun i h => (∃ old, IsEnum h e it ((i : Nat) : Int) old) ∧ h.IsTupleIter it a i ∧ e ≠ it) where
  mem := by simp
  obj := fun i h st b hb => by
    obtain ⟨⟨old, he⟩, ⟨o, ho, hc, hd⟩, _⟩ := st
    have e' : b = e ∨ b = it := by simpa using hb
    rcases e' with z | z
    · rw [z]; exact ⟨_, he, fun v q => nomatch q⟩
    · rw [z]; exact ⟨o, ho, fun v q => by rw [hd] at q; cases q⟩
  keep := fun i h h' st k => let ⟨⟨old, he⟩, hi, hne⟩ := st; ⟨⟨old, k e (by simp) _ he⟩, hi.at fun o q => k it (by simp) o q, hne⟩
  item := by
    intro X hP hw hK hc i pins s σ H E I hf st hg
    subst hP hw hK
    obtain ⟨⟨old, he⟩, hit, hne⟩ := st
    obtain ⟨xs, x, hq, hx⟩ := hg
    obtain ⟨its, rv, p, hz⟩ := I.tuple hq
    obtain ⟨u, hu, ru⟩ := rv.get hx
    have hel : e < s.heap.objs.size := Heap.lt_size he
    have hil : it < s.heap.objs.size := by obtain ⟨_, q, _⟩ := hit; exact Heap.lt_size q
    have hat : s.heap.IsTuple a its.toArray := p
    have ha : a ≠ it := fun z => by
      obtain ⟨o1, h1, c1, d1⟩ := hit
      obtain ⟨o2, h2, c2, _⟩ := hat
      rw [z, h1] at h2
      cases h2
      rw [c1] at c2
      exact absurd (Value.type.inj c2) (by decide)
    have hae : e ∉ [it, a] := fun z => by
      simp only [List.mem_cons, List.not_mem_nil, or_false] at z
      rcases z with z | z
      · exact hne z
      · obtain ⟨o2, h2, c2, _⟩ := hat
        rw [← z, he] at h2
        cases h2
        exact absurd (Value.type.inj c2) (by decide)
    refine wpAny_pyNext_enum_itemD (Draws.tuple (A := X.A.in1) (I.ok.hd hc) it a ha its.toArray) he ⟨hit, hat⟩ (by
      have := (List.getElem?_eq_some_iff.mp hu).1
      simpa using this) hne hae fun x' h' tk hx' ho hst hT hsz hk => ?_
    have ex : x' = u := by
      have : its.toArray[i]? = some x' := hx'
      simp at this
      rw [hu] at this
      exact (Option.some.inj this).symm
    subst ex
    refine ⟨_, rfl, wpAny_letOwnedTupleGo_enum (s := { s with heap := h', toks := tk + 1 }) ho fun h'' he' sb => ?_⟩
    have hT2 : h''.get? s.heap.objs.size = some { cls := .type "tuple", data := .seq #[.int i tk, x'] } := (sb.2 _ (Nat.ne_of_gt hel)).trans hT
    have new : ObjOk X.prog X.w (upd H s.heap.objs.size (.tup [.int (i : Nat), x])) h'' s.heap.objs.size (.tup [.int (i : Nat), x]) :=
      ⟨by show 2 ≤ sizeLine; decide, [.int i tk, x'], .cons ⟨_, rfl⟩ (.cons ru .nil), ⟨_, hT2, rfl, _, rfl⟩⟩
    have I1 : Inv X pins σ (upd H s.heap.objs.size (.tup [.int (i : Nat), x])) { s with heap := h'', toks := tk + 1 } :=
      I.turnedNew (ch := [e, it]) (fun b ob hb q => (sb.2 b (fun z => hb (by simp [z]))).trans (hk b ob (fun z => hb (by simp [z])) (fun z => hb (by simp [z])) q)) hf (Nat.le_refl _) new
    refine ⟨.ref s.heap.objs.size, _, I1, rfl, ⟨_, x, rfl, I.hok.fresh (Nat.le_refl _), rfl, fun ys hy => by rw [I.tuple_inj hy hq]; exact hx⟩, ⟨⟨x', ?_⟩, hst.1.at fun o q => (sb.2 it (Ne.symm hne)).trans q, hne⟩, fun b hb => ?_⟩
    · have e1 : ((i + 1 : Nat) : Int) = (i : Int) + 1 := by omega
      rw [e1]; exact he'
    · have hb' : b < s.heap.objs.size := by
        have e' : b = e ∨ b = it := by simpa using hb
        rcases e' with z | z
        · rw [z]; exact hel
        · rw [z]; exact hil
      rw [upd_ne (Nat.ne_of_lt hb')]
      exact (hf b hb).1
  done := by
    intro X hP hw hK hc i pins s σ H E I hf st hg
    subst hP hw hK
    obtain ⟨⟨old, he⟩, hit, hne⟩ := st
    obtain ⟨xs, hq, hx⟩ := hg
    obtain ⟨its, rv, p, hz⟩ := I.tuple hq
    obtain ⟨f0, f1, f2, f3, f4, f5⟩ := hf it (by simp)
    have hl := rv.length
    have hat : s.heap.IsTuple a its.toArray := p
    have ha : a ≠ it := fun z => by
      obtain ⟨o1, h1, c1, d1⟩ := hit
      obtain ⟨o2, h2, c2, _⟩ := hat
      rw [z, h1] at h2
      cases h2
      rw [c1] at c2
      exact absurd (Value.type.inj c2) (by decide)
    have hin : i = its.toArray.size := by rw [List.size_toArray]; omega
    subst hin
    exact wpAny_pyNext_enum_endD (Draws.tuple (A := X.A.in1) (I.ok.hd hc) it a ha its.toArray) he ⟨hit, hat⟩ fun h' eb => ⟨rfl, I.turned (t' := s.toks) (fun b o hb q => eb b o hb q) f0 f1 f3 f4 f5⟩
  self := fun A i s Q E st h => let ⟨⟨_, he⟩, _⟩ := st; wpAny_pyIter_enum he h
def iEnumT (K : PySem.W.Frag) (ta : TA) : TI := fun σ H R => ta σ H fun vs H1 => ∃ a xs, vs = [.ref a] ∧ SqT K H1 a xs ∧ R (ItEt K a) H1
theorem pi_enumT {X : Cx} {e : Expr} {ta : TA} {p pos tpos : Pos} {elts : List Expr} {kk : Nat} (hg : Gl X "enumerate") (hm : X.mg "enumerate" = none) (ha : PA X [e] ta) (hs : starEach [e] X.env = [(false, eval e X.env)]) :
    PI X (.Tuple elts kk tpos) (.Call (.Name "enumerate" p) [e] [] pos) (iEnumT X.K ta) := by
  refine ⟨fun pins s σ H R I h => ?_⟩
  refine Call_ (ld_blt I hg hm boot_enumerate (PyProof.Rows.callWith_type1 (thn (ha.run pos pins s σ H _ I h) fun us s1 ⟨vs, H1, I1, r1, q1⟩ => ?_) hs rfl))
  obtain ⟨a, xs, ex, hq, q⟩ := q1
  subst ex
  cases r1 with
  | cons r rr =>
    cases rr
    cases r
    obtain ⟨its, rv, p', hz⟩ := I1.tuple hq
    have hat : s1.heap.IsTuple a its.toArray := p'
    refine enum_beginsB1 (begins_tuple a its.toArray) hat fun h' he hit hsz hk => wpAny_pyIter_enum he ?_
    have I2 : Inv X pins σ H1 { s1 with heap := h' } := I1.kept (t' := s1.toks) hk
    refine ⟨s1.heap.objs.size + 1, [s1.heap.objs.size + 1, s1.heap.objs.size], _, _, H1, rfl, I2, turn_enumT a (s1.heap.objs.size + 1) s1.heap.objs.size, ⟨⟨.none, he⟩, ⟨_, hit, rfl, rfl⟩, Nat.succ_ne_self _⟩, fun b hb => ?_, q⟩
    have e' : b = s1.heap.objs.size + 1 ∨ b = s1.heap.objs.size := by simpa using hb
    have hle : s1.heap.objs.size ≤ b := by
      rcases e' with z | z
      · rw [z]; exact Nat.le_add_right _ _
      · rw [z]; exact Nat.le_refl _
    exact I1.fpOk hle (I1.hok.fresh hle)
section
variable {X : Cx} {ro : Ro} {om : Om} {e : Expr} {x : D}
/-- enumerate over a list -/
theorem it_en {ds : List D} {Pm : Om → Prop} {p pos tpos : Pos} {elts : List Expr} {kk : Nat} (h : wv X ro om e x) (l : Lr om x ds) (hg : Gl X "enumerate") (hm : X.mg "enumerate" = none) (hs : starEach [e] X.env = [(false, eval e X.env)]) :
    Itd X ro om (.Tuple elts kk tpos) (.Call (.Name "enumerate" p) [e] [] pos) ((List.range ds.length).map fun i : Nat => .tup [.int (i : Int), ds.getD i .non]) (fun om2 => Lr om2 x ds) := fun R om0 H0 t σ H o => by
  refine pI_of (pi_enum hg hm pA_pa hs) ?_
  have ha : wav X ro om [e] [x] := av_cons h av_nil hs
  refine pA_mono (ha R (fun ds' om' => ds' = [x] ∧ om' = om) ⟨rfl, rfl⟩ om0 H0 t σ H o) fun vs H1 ⟨ds', om1, ⟨e1, e2⟩, o1, r⟩ => ?_
  subst e1 e2
  obtain ⟨v, rfl, rx⟩ := one_rep r
  obtain ⟨a, xs, rfl, h1, r1⟩ := l.rep o1.store rx
  refine ⟨a, xs, rfl, SqL.of h1, o1, fun om2 H2 S2 s2 l2 => ?_⟩
  obtain ⟨a', xs', e', h2, r2⟩ := l2.rep S2 (rx.mono s2)
  cases e'
  refine ⟨fun i d hi => ?_, ?_⟩
  · obtain ⟨hlt, rfl⟩ := rng_item hi
    have hd : ds[i]? = some (ds.getD i .non) := by rw [List.getD_eq_getElem?_getD, List.getElem?_eq_getElem hlt]; rfl
    obtain ⟨u, h3, r3⟩ := r2.get hd
    refine ⟨⟨xs', u, SqL.of h2, h3⟩, fun x' H3 ⟨T, y, e3, hT, e4, hy⟩ => ?_⟩
    subst e3 e4
    have h5 := hy xs' (SqL.of h2)
    rw [h3] at h5
    cases h5
    refine ⟨S2.new hT, Stable.new hT, ?_⟩
    exact new_tup S2 hT ⟨_, _, rfl, rfl, _, _, rfl, r3, rfl⟩
  · refine ⟨xs', SqL.of h2, ?_⟩
    rw [List.length_map, List.length_range, r2.length]
    exact Nat.le_refl _
/-- enumerate over a tuple -/
theorem it_enT {ds : List D} {p pos tpos : Pos} {elts : List Expr} {kk : Nat} (h : wv X ro om e (.tup ds)) (hg : Gl X "enumerate") (hm : X.mg "enumerate" = none) (hs : starEach [e] X.env = [(false, eval e X.env)]) :
    Itd X ro om (.Tuple elts kk tpos) (.Call (.Name "enumerate" p) [e] [] pos) ((List.range ds.length).map fun i : Nat => .tup [.int (i : Int), ds.getD i .non]) (fun _ => True) := fun R om0 H0 t σ H o => by
  refine pI_of (pi_enumT hg hm pA_pa hs) ?_
  have ha : wav X ro om [e] [.tup ds] := av_cons h av_nil hs
  refine pA_mono (ha R (fun ds' om' => ds' = [.tup ds] ∧ om' = om) ⟨rfl, rfl⟩ om0 H0 t σ H o) fun vs H1 ⟨ds', om1, ⟨e1, e2⟩, o1, r⟩ => ?_
  subst e1 e2
  obtain ⟨v, rfl, rx⟩ := one_rep r
  obtain ⟨a, xs, rfl, h1, r1⟩ := tup_rep rx
  refine ⟨a, xs, rfl, h1, o1, fun om2 H2 S2 s2 _ => ?_⟩
  obtain ⟨a', xs', e', h2, r2⟩ := tup_rep (rx.mono s2)
  cases e'
  refine ⟨fun i d hi => ?_, ?_⟩
  · obtain ⟨hlt, rfl⟩ := rng_item hi
    have hd : ds[i]? = some (ds.getD i .non) := by rw [List.getD_eq_getElem?_getD, List.getElem?_eq_getElem hlt]; rfl
    obtain ⟨u, h3, r3⟩ := r2.get hd
    refine ⟨⟨xs', u, h2, h3⟩, fun x' H3 ⟨T, y, e3, hT, e4, hy⟩ => ?_⟩
    subst e3 e4
    have h5 := hy xs' h2
    rw [h3] at h5
    cases h5
    exact ⟨S2.new hT, Stable.new hT, new_tup S2 hT ⟨_, _, rfl, rfl, _, _, rfl, r3, rfl⟩⟩
  · refine ⟨xs', h2, ?_⟩
    rw [List.length_map, List.length_range, r2.length]
end
/-! a module's tuple of texts -/
def strOf : Value → Option Str
  | .str s _ => some s
  | _ => none
def tupT (K : PySem.W.Frag) (a : Addr) (ss : List Str) : Bool := match K.lookup a with
  | some ⟨.type t, _, .seq its _, _⟩ => decide (t = "tuple") && decide (its.toList.map strOf = ss.map some) && decide (ss.length ≤ 1000)
  | _ => false
def fTupS (x : Str) (ss : List Str) : Fk := fun K => fGlo x K && tupT K (He.ga K x) ss
theorem vals_strs : ∀ {ss : List Str} {us : List Value}, us.map strOf = ss.map some → Vals (ss.map V.str) us
  | [], [], _ => .nil
  | [], _ :: _, h => by simp at h
  | _ :: _, [], h => by simp at h
  | s :: ss, u :: us, h => by
    simp only [List.map_cons, List.cons.injEq] at h
    obtain ⟨h1, h2⟩ := h
    refine .cons ?_ (vals_strs h2)
    cases u with
    | str x t => cases h1; exact ⟨t, rfl⟩
    | _ => cases h1
structure TupG (K : PySem.W.Frag) (mg : Str → Option Value) (x : Str) (ss : List Str) : Prop where
  ex : ∃ a, mg x = some (.ref a) ∧ KT K a (ss.map V.str)
theorem fTupS_ok {K : PySem.W.Frag} {h : Heap} {mg : Str → Option Value} {x : Str} {ss : List Str} (X : K.In h) (G : h.Ns mainGlobals mg) (c : fTupS x ss K = true) : TupG K mg x ss := by
  obtain ⟨c1, c2⟩ := Bool.and_eq_true_iff.mp c
  refine ⟨He.ga K x, fGlo_ok X G c1, ?_⟩
  unfold tupT at c2
  split at c2
  · rename_i t dd its n l ho
    simp only [Bool.and_eq_true, decide_eq_true_eq] at c2
    obtain ⟨⟨rfl, h2⟩, h3⟩ := c2
    refine ⟨_, its, n, ho, rfl, rfl, ?_, vals_strs h2⟩
    have e := congrArg List.length h2
    rw [List.length_map, List.length_map, Array.length_toList] at e
    rw [e, sizeLine_eq]
    omega
  · cases c2
theorem v_tupG {X : Cx} {ro : Ro} {om : Om} {x : Str} {ss : List Str} {pos : Pos} (T : TupG X.K X.mg x ss) (hg : Gl X x) (hd : (x == ("__debug__" : Str)) = false) : wv X ro om (.Name x pos) (.tup (ss.map .str)) := by
  obtain ⟨a, hm, hk⟩ := T.ex
  exact v_glob hm (v := .ref a) rfl (fun om H => ⟨a, _, rfl, .inr hk, RepL.of_strs⟩) hg hd
/-! piles of motions -/
/-- x is a list of the motions ms, standing at as -/
structure Piled (κ : Ka) (om : Om) (x : D) (as : List Addr) (ms : List Mt) : Prop where
  l : Lr om x (as.map .obj)
  len : as.length = ms.length
  at_ : ∀ (i : Nat) (a : Addr) (m : Mt), as[i]? = some a → ms[i]? = some m → ∃ q, m.At κ om a q
theorem Piled.last {κ : Ka} {om : Om} {x : D} {as : List Addr} {ms : List Mt} {m : Mt} (p : Piled κ om x as ms) (h : ms.getLast? = some m) : ∃ a q, atI (as.map D.obj) (-1) = some (.obj a) ∧ m.At κ om a q := by
  have hne : ms ≠ [] := fun z => by subst z; cases h
  have hl : ms.length ≠ 0 := fun z => hne (List.length_eq_zero_iff.mp z)
  have hlen := p.len
  have hm : ms[ms.length - 1]? = some m := by rw [← List.getLast?_eq_getElem?]; exact h
  have hi : ms.length - 1 < as.length := by omega
  obtain ⟨q, hq⟩ := p.at_ (ms.length - 1) as[ms.length - 1] m (List.getElem?_eq_getElem hi) hm
  refine ⟨_, q, ?_, hq⟩
  have e : as = as.take (ms.length - 1) ++ [as[ms.length - 1]] := by
    rw [← List.take_succ_eq_append_getElem hi, show ms.length - 1 + 1 = as.length by omega, List.take_length]
  have e2 : as.map D.obj = (as.take (ms.length - 1)).map D.obj ++ [.obj as[ms.length - 1]] := by
    have := congrArg (List.map D.obj) e
    rw [List.map_append] at this
    exact this
  rw [e2]
  exact at_last
/-- the bar of a pile -/
def topRank (ms : List Mt) : Int := match ms.getLast? with
  | none => -1
  | some m => m.rank
def barOf (ms : List Mt) (c : Bool) : Int := if c = true then (if 4 > topRank ms then 4 else topRank ms) else topRank ms
theorem topRank_some {ms : List Mt} {m : Mt} (h : ms.getLast? = some m) : topRank ms = m.rank := by unfold topRank; rw [h]
end Mo

set_option Elab.async false
set_option linter.all false
set_option maxRecDepth 100000
set_option maxHeartbeats 4000000
set_option autoImplicit false
/-! Deeds and their rows. -/
namespace Mo
open PySem PySem.Spec PyProof.Rows L2
inductive Dd where
  | mv (t : Td) | vote (a n : Int) | drop | take (k : Int)
deriving DecidableEq
namespace Dd
def d : Dd → D
  | mv t => t.d
  | vote a n => .tup [.str "vote", .int a, .int n]
  | drop => .tup [.str "drop"]
  | take k => .tup [.str "take", .int k]
def p : Dd → PyData
  | mv t => t.p
  | vote a n => .tuple [.str "vote", .int a, .int n]
  | drop => .tuple [.str "drop"]
  | take k => .tuple [.str "take", .int k]
theorem pd {om : Om} : ∀ x : Dd, Pd om x.d x.p
  | mv t => t.pd
  | vote _ _ => Pd.t (.cons (Pd.str _) (.cons (Pd.int _) (.cons (Pd.int _) .nil)))
  | drop => Pd.t (.cons (Pd.str _) .nil)
  | take _ => Pd.t (.cons (Pd.str _) (.cons (Pd.int _) .nil))
theorem pk {n : Nat} : ∀ x : Dd, pokn (n + 2) x.p
  | mv t => t.pk
  | vote _ _ => pokn_tuple (all_cons pokn_str (all_cons pokn_int (all_cons pokn_int all_nil)))
  | drop => pokn_tuple (all_cons pokn_str all_nil)
  | take _ => pokn_tuple (all_cons pokn_str (all_cons pokn_int all_nil))
end Dd
/-- x tells the deed -/
def DdAt (om : Om) (x : D) : Dd → Prop
  | .mv t => TdAt om x t
  | e => x = e.d
theorem DdAt.d {om : Om} : ∀ e : Dd, DdAt om e.d e
  | .mv t => TdAt.d t
  | .vote _ _ => rfl | .drop => rfl | .take _ => rfl
abbrev strI (i : Int) : Str := (toString i : String)
/-- the words of a text, of an edit, of a deed -/
def textWs (t : List Str) : List Str := t.flatMap fun c => "/" :: wordsC c
def edWs : Ed → List Str
  | .put a s => ("put" : Str) :: strI a :: wordsC s
  | .cut a => [("cut" : Str), strI a]
  | .turn a s => ("turn" : Str) :: strI a :: wordsC s
def Td.ws : Td → List Str
  | .matter t => "matter" :: textWs t
  | .change e => "change" :: edWs e
  | .mend e => "mend" :: edWs e
  | .putOff n => ["put off", strI n]
  | .close => ["close"] | .lay => ["lay"] | .rest => ["rest"]
  | .point s => "point" :: wordsC s
def Dd.ws : Dd → List Str
  | .mv t => t.ws
  | .vote a n => ["vote", strI a, strI n]
  | .drop => ["drop"]
  | .take k => ["take", strI k]
def showD (e : Dd) : Str := clauseC e.ws
/-- of such a size that its row can be made -/
def smI (i : Int) : Prop := 0 ≤ i ∧ i < 10 ^ 12
def smE (e : Ed) : Prop := smI e.at_ ∧ e.th.length ≤ 100000
def smT : Td → Prop
  | .matter t => (t.map (·.length)).sum + t.length ≤ 1000000
  | .change e => smE e
  | .mend e => smE e
  | .putOff n => smI n
  | .point s => s.length ≤ 100000
  | _ => True
def smD : Dd → Prop
  | .mv t => smT t
  | .vote a n => smI a ∧ smI n
  | .drop => True
  | .take k => smI k
theorem smI.log {i : Int} (h : smI i) : i.natAbs.log2 < 1920 := by
  obtain ⟨h0, h1⟩ := h
  have h : i.natAbs < 2 ^ 41 := by omega
  by_cases hz : i.natAbs = 0
  · rw [hz]; decide
  · have := (Nat.log2_lt hz).mpr h
    omega
/-! lengths -/
theorem le_sum : ∀ {l : List Nat} {a : Nat}, a ∈ l → a ≤ l.sum
  | [], _, h => by cases h
  | b :: l, a, h => by
    rw [List.sum_cons]
    rcases List.mem_cons.mp h with e | e
    · omega
    · have := le_sum e; omega
theorem join_len (s : Str) (ss : List Str) : (Txt.join s ss).length ≤ (ss.map (·.length)).sum + ss.length * s.length := by
  rw [len_tl, TL.join_eq, TL.tl_join]
  refine Nat.le_trans (joinL_len _) ?_
  rw [List.map_map, List.length_map]
  have : (List.length ∘ TL.tl) = (fun s : Str => s.length) := by funext s; exact (len_tl s).symm
  rw [this, len_tl]
  exact Nat.le_refl _
theorem spl_size : ∀ (l acc : List Nat), ((TL.spl [32] 0 acc l).map List.length).sum + (TL.spl [32] 0 acc l).length = acc.length + l.length + 1
  | [], acc => by rw [TL.spl_nil]; simp
  | c :: r, acc => by
    by_cases h : TL.pre [32] (c :: r) = true
    · rw [TL.spl_hit h]
      have ih := spl_size r []
      simp only [List.map_cons, List.sum_cons, List.length_cons, List.length_nil] at ih ⊢
      show acc.length + _ + _ = _
      have e : TL.spl [32] (([32] : List Nat).length - 1) [] r = TL.spl [32] 0 [] r := rfl
      simp only [List.length_cons, List.length_nil, Nat.zero_add, Nat.sub_self] at ih ⊢
      omega
    · rw [TL.spl_miss (by simpa using h)]
      have ih := spl_size r (acc ++ [c])
      rw [List.length_append, List.length_singleton] at ih
      rw [ih, List.length_cons]
      omega
theorem split_size (s : Str) : ((Txt.split s sp).map (·.length)).sum + (Txt.split s sp).length = s.length + 1 := by
  have h := TL.split_spl s sp (by rw [tl_sp]; simp) (TL.kind_ok (by decide +kernel))
  have h2 := spl_size (TL.tl s) []
  rw [tl_sp] at h
  rw [← h] at h2
  rw [List.map_map, List.length_map] at h2
  have : (List.length ∘ TL.tl) = (fun s : Str => s.length) := by funext s; exact (len_tl s).symm
  rw [this, ← len_tl, List.length_nil, Nat.zero_add] at h2
  exact h2
theorem wordsC_size (s : Str) : ((wordsC s).map (·.length)).sum + (wordsC s).length ≤ s.length + 1 := by
  unfold wordsC
  split
  · simp
  · exact Nat.le_of_eq (split_size s)
theorem textWs_size (t : List Str) : ((textWs t).map (·.length)).sum + (textWs t).length ≤ (t.map (·.length)).sum + 3 * t.length := by
  induction t with
  | nil => simp [textWs]
  | cons c t ih =>
    have h := wordsC_size c
    have e : textWs (c :: t) = (("/" : Str) :: wordsC c) ++ textWs t := rfl
    have l1 : ("/" : Str).length = 1 := by decide +kernel
    rw [e, List.map_append, List.sum_append, List.length_append, List.map_cons, List.sum_cons, List.length_cons, List.map_cons, List.sum_cons, List.length_cons, l1]
    omega
/-- how long a number is written -/
theorem strI_len {i : Int} (h : smI i) : (strI i).length ≤ 12 := PyProof.Rows.toString_length_le h.1 (by decide) h.2
theorem edWs_size {e : Ed} (h : smE e) : ((edWs e).map (·.length)).sum + (edWs e).length ≤ 100100 := by
  have l1 : ("put" : Str).length = 3 := by decide +kernel
  have l2 : ("cut" : Str).length = 3 := by decide +kernel
  have l3 : ("turn" : Str).length = 4 := by decide +kernel
  cases e with
  | put a s =>
    have h1 := strI_len (i := a) h.1
    have h2 := wordsC_size s
    have h3 : s.length ≤ 100000 := h.2
    simp only [edWs, List.map_cons, List.sum_cons, List.length_cons]
    omega
  | cut a =>
    have h1 := strI_len (i := a) h.1
    simp only [edWs, List.map_cons, List.sum_cons, List.length_cons, List.map_nil, List.sum_nil, List.length_nil]
    omega
  | turn a s =>
    have h1 := strI_len (i := a) h.1
    have h2 := wordsC_size s
    have h3 : s.length ≤ 100000 := h.2
    simp only [edWs, List.map_cons, List.sum_cons, List.length_cons]
    omega
/-! joins within joins -/
theorem joinL_nest (S : List Nat) : ∀ (A B : List (List Nat)), A ≠ [] → TL.joinL S (TL.joinL S A :: B) = TL.joinL S (A ++ B)
  | [], _, h => absurd rfl h
  | [a], B, _ => rfl
  | a :: b :: A, [], _ => by simp [TL.joinL]
  | a :: b :: A, c :: B, _ => by
    have ih := joinL_nest S (b :: A) (c :: B) (by simp)
    show TL.joinL S (a :: b :: A) ++ (S ++ TL.joinL S (c :: B)) = a ++ (S ++ TL.joinL S (b :: (A ++ c :: B)))
    rw [show TL.joinL S (b :: (A ++ c :: B)) = TL.joinL S ((b :: A) ++ c :: B) from rfl, ← ih]
    show (a ++ (S ++ TL.joinL S (b :: A))) ++ (S ++ TL.joinL S (c :: B)) = a ++ (S ++ (TL.joinL S (b :: A) ++ (S ++ TL.joinL S (c :: B))))
    simp only [List.append_assoc]
theorem clause_nest {A B : List Str} (h : A ≠ []) : clauseC (clauseC A :: B) = clauseC (A ++ B) := by
  apply str_ext
  rw [tl_clause, tl_clause, List.map_cons, tl_clause, joinL_nest _ _ _ (by simpa using h), List.map_append]
theorem clause_two (a b : Str) : clauseC [a, b] = a ++ sp ++ b := by
  apply str_ext
  rw [tl_clause, tl_app, tl_app, tl_sp]
  show TL.tl a ++ ([32] ++ TL.tl b) = _
  rw [List.append_assoc]
theorem clause_cons {a : Str} {A : List Str} (h : A ≠ []) : clauseC (a :: A) = a ++ sp ++ clauseC A := by
  cases A with
  | nil => exact absurd rfl h
  | cons b A =>
    apply str_ext
    rw [tl_clause, tl_app, tl_app, tl_sp, tl_clause]
    show TL.tl a ++ ([32] ++ TL.joinL [32] ((b :: A).map TL.tl)) = _
    rw [List.append_assoc]
/-! well formed deeds -/
def IsCl (c : Str) : Prop := ∃ ws : List Str, (∀ x ∈ ws, IsWord x) ∧ c = clauseC ws ∧ ws.length ≤ 100
theorem IsCl.len {c : Str} (h : IsCl c) : c.length ≤ 2100 := by
  obtain ⟨ws, h1, rfl, h2⟩ := h
  have h3 := clause_len ws
  have h4 := words_sum h1
  omega
def wfI (i : Int) : Prop := 0 ≤ i ∧ i < 10 ^ 10
theorem wfI.sm {i : Int} (h : wfI i) : smI i := ⟨h.1, Int.lt_trans h.2 (by decide)⟩
def wfT : Td → Prop
  | .matter t => (∀ c ∈ t, IsCl c) ∧ t.length ≤ 100
  | .change e => wfI e.at_ ∧ IsCl e.th
  | .mend e => wfI e.at_ ∧ (e.kd ≠ "cut" → IsWord e.th)
  | .putOff n => 1 ≤ n ∧ n ≤ 999999999
  | .point s => IsCl s
  | _ => True
def wfD : Dd → Prop
  | .mv t => wfT t
  | .vote a n => wfI a ∧ wfI n
  | .drop => True
  | .take k => wfI k
theorem wfD.sm : ∀ {e : Dd}, wfD e → smD e
  | .mv (.matter t), h => by
    have := sum_le (f := fun s : Str => s.length) (m := 2100) (l := t) fun x hx => (h.1 x hx).len
    have h2 : t.length ≤ 100 := h.2
    show _ ≤ _
    omega
  | .mv (.change e), h => ⟨h.1.sm, Nat.le_trans h.2.len (by decide)⟩
  | .mv (.mend e), h => ⟨h.1.sm, by
    by_cases hk : e.kd = "cut"
    · have : e.th = "" := by
        cases e with
        | cut a => rfl
        | put a s => exact absurd hk (show ¬ (("put" : Str) = "cut") by decide)
        | turn a s => exact absurd hk (show ¬ (("turn" : Str) = "cut") by decide)
      rw [this]
      decide +kernel
    · exact Nat.le_trans (h.2 hk).hi (by decide)⟩
  | .mv (.putOff n), h => ⟨by have := h.1; omega, by have := h.2; show n < 10 ^ 12; omega⟩
  | .mv .close, _ => trivial
  | .mv .lay, _ => trivial
  | .mv .rest, _ => trivial
  | .mv (.point s), h => Nat.le_trans (IsCl.len h) (by decide)
  | .vote a n, h => ⟨h.1.sm, h.2.sm⟩
  | .drop, _ => trivial
  | .take k, h => wfI.sm h
/-! the drawn words of the rows' laws -/
def wordsN (d : Int) : Int := if d / 4 % 8 = 3 then d / 32 % 13 else d % 4
def wordsBB (d : Int) : List Str := (streamL d (wordsN d).toNat).map wordB
theorem wordsN_bd (d : Int) : 0 ≤ wordsN d ∧ wordsN d ≤ 12 := by unfold wordsN; split <;> omega
theorem wordsBB_len (d : Int) : (wordsBB d).length ≤ 12 := by
  unfold wordsBB
  rw [List.length_map, streamL_len]
  have := wordsN_bd d
  omega
theorem wordsBB_ok (d : Int) : ∀ x ∈ wordsBB d, IsWord x := fun x h => by
  obtain ⟨z, _, rfl⟩ := List.mem_map.mp h
  exact wordB_ok z
theorem wordsBB_cl (d : Int) : IsCl (clauseC (wordsBB d)) := ⟨_, wordsBB_ok d, rfl, Nat.le_trans (wordsBB_len d) (by decide)⟩
def numB (d : Int) : Int := if d % 3 = 0 then d / 3 * 48271 % 10 ^ 10 else d / 3 % 4
theorem numB_wf (d : Int) : wfI (numB d) := by
  unfold numB wfI
  split <;> omega
def Dd.kd : Dd → Str
  | .mv t => t.kind
  | .vote _ _ => "vote"
  | .drop => "drop"
  | .take _ => "take"
theorem Td.ix0 {X : Cx} {om : Om} {t : Td} : Ix X om t.d (.int 0) (.str t.kind) := by cases t <;> exact ix_T rfl
theorem Dd.ix0 {X : Cx} {om : Om} {e : Dd} : Ix X om e.d (.int 0) (.str e.kd) := by
  cases e with
  | mv t => exact Td.ix0
  | _ => exact ix_T rfl
theorem Td.of_matter : ∀ {t : Td}, t.kind = "matter" → ∃ e, t = .matter e
  | .matter e, _ => ⟨e, rfl⟩
  | .change _, h => absurd h (show ¬ (("change" : Str) = "matter") by decide)
  | .mend _, h => absurd h (show ¬ (("mend" : Str) = "matter") by decide)
  | .putOff _, h => absurd h (show ¬ (("put off" : Str) = "matter") by decide)
  | .close, h => absurd h (show ¬ (("close" : Str) = "matter") by decide)
  | .lay, h => absurd h (show ¬ (("lay" : Str) = "matter") by decide)
  | .rest, h => absurd h (show ¬ (("rest" : Str) = "matter") by decide)
  | .point _, h => absurd h (show ¬ (("point" : Str) = "matter") by decide)
theorem Dd.of_matter : ∀ {e : Dd}, e.kd = "matter" → ∃ t, e = .mv (.matter t)
  | .mv t, h => let ⟨e, he⟩ := Td.of_matter (t := t) h; ⟨e, by rw [he]⟩
  | .vote _ _, h => absurd h (show ¬ (("vote" : Str) = "matter") by decide)
  | .drop, h => absurd h (show ¬ (("drop" : Str) = "matter") by decide)
  | .take _, h => absurd h (show ¬ (("take" : Str) = "matter") by decide)
theorem str_app3 (a b c : Str) (h : TL.tl b = [32]) : a ++ b ++ c = clauseC [a, c] := by
  rw [clause_two]
  congr 1
  congr 1
  exact str_ext (h.trans tl_sp.symm)
theorem textWs_snoc {t : List Str} {c : Str} : textWs (t ++ [c]) = textWs t ++ (("/" : Str) :: wordsC c) := by
  unfold textWs
  rw [List.flatMap_append]
  simp
end Mo

set_option Elab.async false
set_option linter.all false
set_option maxRecDepth 100000
set_option maxHeartbeats 4000000
set_option autoImplicit false
/-! Rows read. -/
namespace Mo
open PySem PySem.Spec PyProof.Rows L2
theorem c_leS {X : Cx} {om : Om} {i j : Str} : Op X om (compareOp .LtE) (.str i) (.str j) (.bl (!decide (j.cps.toList < i.cps.toList))) := .of op_le_str fun H v u S rx ry Q q => by cases rx; cases ry; exact ⟨i, j, rfl, rfl, q _ rfl⟩
/-! numbers -/
def isDig (c : Nat) : Bool := decide (48 ≤ c) && decide (c ≤ 57)
def numHd (w : Str) : Bool := !(decide (1 ≤ w.length) && decide (w.length ≤ 10)) || (decide ((TL.tl w).head? = some 48) && decide (1 < w.length))
def numOk (w : Str) : Bool := !numHd w && (TL.tl w).all isDig
def numVal (w : Str) : Int := (NumText.digitsVal (TL.tl w) : Nat)
def numW (w : Str) : Option Int := if numOk w = true then some (numVal w) else none
theorem numVal_int {w : Str} (h : numOk w = true) : intText? w = some (numVal w) := by
  obtain ⟨h1, h2⟩ := Bool.and_eq_true_iff.mp h
  unfold numHd at h1
  simp only [Bool.not_or, Bool.not_not, Bool.and_eq_true, decide_eq_true_eq] at h1
  obtain ⟨⟨h3, h4⟩, _⟩ := h1
  have e : w = SX.S (TL.tl w) := TL.ext_tl rfl
  have := SX.int_S (a := TL.tl w) h2 (fun z => by rw [len_tl, z] at h3; simp at h3) (by rw [← len_tl]; omega)
  rw [← e] at this
  exact this
theorem numVal_bd {w : Str} : 0 ≤ numVal w := Int.natCast_nonneg _
theorem numW_some {w : Str} {i : Int} (h : numW w = some i) : numOk w = true ∧ i = numVal w := by
  unfold numW at h
  split at h
  · exact ⟨by assumption, (Option.some.inj h).symm⟩
  · cases h
theorem numL_head : ∀ (n : Nat), n ≠ 0 → (TL.numL n).head? ≠ some 48 := by
  intro n
  induction n using Nat.strongRecOn with
  | ind n ih =>
    intro hn
    by_cases h : n < 10
    · rw [TL.numL_lt h]
      simp
      omega
    · rw [TL.numL_step (by omega), List.head?_append]
      have := ih (n / 10) (by omega) (by omega)
      cases e : (TL.numL (n / 10)).head? with
      | none =>
        have h2 : TL.numL (n / 10) = [] := List.head?_eq_none_iff.mp e
        exfalso
        by_cases h3 : n / 10 < 10
        · rw [TL.numL_lt h3] at h2; cases h2
        · rw [TL.numL_step (by omega)] at h2
          exact absurd h2 (by simp)
      | some c =>
        rw [e] at this
        simpa using this
theorem numVal_num (n : Nat) : NumText.digitsVal (TL.numL n) = n := by
  induction n using Nat.strongRecOn with
  | ind n ih =>
    by_cases h : n < 10
    · rw [TL.numL_lt h]
      simp [NumText.digitsVal]
    · rw [TL.numL_step (by omega)]
      have := ih (n / 10) (by omega)
      unfold NumText.digitsVal at this ⊢
      rw [List.foldl_append, this]
      simp
      omega
theorem strI_tl {i : Int} (h : 0 ≤ i) : TL.tl (strI i) = TL.numL i.toNat := by
  have e : i = ((i.toNat : Nat) : Int) := by omega
  rw [e]
  exact TL.tl_num _
theorem numW_strI {i : Int} (h : wfI i) : numW (strI i) = some i := by
  have ht := strI_tl h.1
  have hl : (strI i).length ≤ 10 := PyProof.Rows.toString_length_le h.1 (by decide) h.2
  have hne : TL.numL i.toNat ≠ [] := fun z => by
    by_cases h3 : i.toNat < 10
    · rw [TL.numL_lt h3] at z; cases z
    · rw [TL.numL_step (by omega)] at z
      exact absurd z (by simp)
  have h1 : 1 ≤ (strI i).length := by
    rw [len_tl, ht]
    exact List.length_pos_iff.mpr hne
  have hd : (TL.tl (strI i)).all isDig = true := by
    rw [ht]
    refine List.all_eq_true.mpr fun c hc => ?_
    have := TL.numL_digits i.toNat c hc
    unfold isDig
    simp [this]
  have hh : numHd (strI i) = false := by
    unfold numHd
    rw [decide_eq_true h1, decide_eq_true hl, ht]
    by_cases h0 : i.toNat = 0
    · have e0 : i = 0 := by have := h.1; omega
      subst e0
      decide +kernel
    · have := numL_head i.toNat h0
      simp [this]
  have ho : numOk (strI i) = true := by unfold numOk; rw [hh, hd]; rfl
  unfold numW
  rw [if_pos ho]
  unfold numVal
  rw [ht, numVal_num]
  congr 1
  have := h.1
  omega
/-! words -/
def wordOk (w : Str) : Bool := !(!(decide (1 ≤ w.length) && decide (w.length ≤ 20)) || decide (w = "/"))
def checkW (ws : List Str) : Bool := ws.all wordOk
theorem IsWord.ok {w : Str} (h : IsWord w) : wordOk w = true := by
  unfold wordOk
  rw [decide_eq_true h.lo, decide_eq_true h.hi, decide_eq_false h.no]
  rfl
theorem checkW_ok {ws : List Str} (h : ∀ x ∈ ws, IsWord x) : checkW ws = true := List.all_eq_true.mpr fun x hx => (h x hx).ok
/-! texts -/
def grpF (s : List (List Str) × List Str) (w : Str) : List (List Str) × List Str := if w = "/" then (s.1 ++ [s.2], []) else (s.1, s.2 ++ [w])
def grpS (ws : List Str) : List (List Str) × List Str := ws.foldl grpF ([], [])
def grpW (ws : List Str) : List (List Str) := (grpS ws).1 ++ [(grpS ws).2]
def textW (ws : List Str) : Option (List Str) := if (grpW ws).head? = some [] ∧ (grpW ws).all checkW = true then some ((grpW ws).tail.map clauseC) else none
theorem grpF_words : ∀ {ws : List Str} {s : List (List Str) × List Str}, (∀ x ∈ ws, x ≠ "/") → ws.foldl grpF s = (s.1, s.2 ++ ws)
  | [], s, _ => by simp
  | w :: ws, s, h => by
    rw [List.foldl_cons]
    have hw := h w List.mem_cons_self
    rw [show grpF s w = (s.1, s.2 ++ [w]) from if_neg hw, grpF_words fun x hx => h x (List.mem_cons_of_mem _ hx)]
    simp
theorem grp_text : ∀ (r : List Str), (∀ c ∈ r, IsCl c) → grpW (textWs r.reverse) = [] :: r.reverse.map wordsC
  | [], _ => rfl
  | c :: r, h => by
    have ih := grp_text r fun x hx => h x (List.mem_cons_of_mem _ hx)
    obtain ⟨ws, hws, rfl, _⟩ := h c List.mem_cons_self
    rw [List.reverse_cons, textWs_snoc, List.map_append]
    unfold grpW grpS at ih ⊢
    rw [List.foldl_append, List.foldl_cons]
    generalize hS : (textWs r.reverse).foldl grpF ([], []) = S at *
    rw [show grpF S "/" = (S.1 ++ [S.2], []) from if_pos rfl, words_clause hws, grpF_words fun x hx => (hws x hx).no]
    show (S.1 ++ [S.2]) ++ [[] ++ ws] = _
    rw [ih]
    show _ = [] :: (List.map wordsC r.reverse ++ [wordsC (clauseC ws)])
    rw [words_clause hws]
    rfl
theorem textW_text {t : List Str} (h : ∀ c ∈ t, IsCl c) : textW (textWs t) = some t := by
  have g := grp_text t.reverse fun c hc => h c (List.mem_reverse.mp hc)
  rw [List.reverse_reverse] at g
  unfold textW
  rw [g, if_pos]
  · simp only [List.tail_cons, List.map_map]
    congr 1
    refine (List.map_congr_left fun c hc => ?_).trans (List.map_id t)
    obtain ⟨ws, hws, rfl, _⟩ := h c hc
    show clauseC (wordsC (clauseC ws)) = _
    rw [words_clause hws]
    rfl
  · refine ⟨rfl, List.all_eq_true.mpr fun g hg => ?_⟩
    rcases List.mem_cons.mp hg with rfl | hg
    · rfl
    · obtain ⟨c, hc, rfl⟩ := List.mem_map.mp hg
      obtain ⟨ws, hws, rfl, _⟩ := h c hc
      rw [words_clause hws]
      exact checkW_ok hws
/-! edits, deeds -/
def edW : List Str → Option (Str × Int × List Str)
  | k :: n :: r => if k = "put" ∨ k = "cut" ∨ k = "turn" then (numW n).bind fun i => if k = "cut" then (if r = [] then some (k, i, []) else none) else (if checkW r = true then some (k, i, r) else none) else none
  | _ => none
def mkEd (k : Str) (i : Int) (s : Str) : Ed := if k = "cut" then .cut i else if k = "put" then .put i s else .turn i s
def changeW (ws : List Str) : Option Dd := (edW ws).map fun z => .mv (.change (mkEd z.1 z.2.1 (clauseC z.2.2)))
def mendW (ws : List Str) : Option Dd := (edW ws).bind fun z => if z.1 = "cut" then some (.mv (.mend (.cut z.2.1))) else match z.2.2 with
  | [x] => some (.mv (.mend (mkEd z.1 z.2.1 x)))
  | _ => none
def putOffW : List Str → Option Dd
  | [k, n] => if k = "off" then (numW n).bind fun i => if 1 ≤ i ∧ i ≤ 999999999 then some (.mv (.putOff i)) else none else none
  | _ => none
def plainW : List Str → Option Dd
  | [k] => if k = "close" then some (.mv .close) else if k = "lay" then some (.mv .lay) else if k = "rest" then some (.mv .rest) else if k = "drop" then some .drop else none
  | [k, n] => if k = "take" then (numW n).map .take else none
  | [k, a, n] => if k = "vote" then (numW a).bind fun i => (numW n).map fun j => .vote i j else none
  | _ => none
def readW : List Str → Option Dd
  | [] => none
  | k :: r => if k = "matter" then (textW r).map fun t => .mv (.matter t) else if k = "change" then changeW r else if k = "mend" then mendW r else if k = "put" then putOffW r
    else if k = "point" then (if checkW r = true then some (.mv (.point (clauseC r))) else none) else plainW (k :: r)
def readR (s : Str) : Option Dd := readW (Txt.split s sp)
/-! sizes -/
def smW (ws : List Str) : Prop := (ws.map (·.length)).sum + ws.length ≤ 1000000 ∧ ws.length ≤ 99000
theorem sub_sum {a b : List Str} (h : a.Sublist b) : (a.map (·.length)).sum ≤ (b.map (·.length)).sum := by
  induction h with
  | slnil => exact Nat.le_refl _
  | cons x _ ih => rw [List.map_cons, List.sum_cons]; omega
  | cons_cons x _ ih => rw [List.map_cons, List.map_cons, List.sum_cons, List.sum_cons]; omega
theorem smW.sub {a b : List Str} (h : a.Sublist b) (w : smW b) : smW a := by
  have h1 := sub_sum h
  have h2 := h.length_le
  exact ⟨by have := w.1; omega, by have := w.2; omega⟩
theorem smW.each {a : List Str} (w : smW a) : ∀ z ∈ a, z.length ≤ 1000000 := fun z hz => by
  have : z.length ≤ (a.map (·.length)).sum := le_sum (List.mem_map.mpr ⟨z, hz, rfl⟩)
  have := w.1
  omega
theorem grpS_snoc (ws : List Str) (w : Str) : grpS (ws ++ [w]) = grpF (grpS ws) w := by
  unfold grpS
  rw [List.foldl_append]
  rfl
theorem grp_sub (ws : List Str) : (∀ g ∈ (grpS ws).1, g.Sublist ws) ∧ (grpS ws).2.Sublist ws ∧ (grpS ws).1.length ≤ ws.length := by
  have : ∀ r : List Str, (∀ g ∈ (grpS r.reverse).1, g.Sublist r.reverse) ∧ (grpS r.reverse).2.Sublist r.reverse ∧ (grpS r.reverse).1.length ≤ r.reverse.length := by
    intro r
    induction r with
    | nil => exact ⟨(fun g h => by cases h), List.Sublist.refl _, Nat.le_refl _⟩
    | cons w r ih =>
      obtain ⟨h1, h2, h3⟩ := ih
      rw [List.reverse_cons, grpS_snoc]
      unfold grpF
      have up : ∀ {g : List Str}, g.Sublist r.reverse → g.Sublist (r.reverse ++ [w]) := fun h => h.trans (List.sublist_append_left _ _)
      split
      · refine ⟨fun g hg => ?_, List.nil_sublist _, ?_⟩
        · rcases List.mem_append.mp hg with hg | hg
          · exact up (h1 g hg)
          · rw [List.mem_singleton.mp hg]; exact up h2
        · rw [List.length_append, List.length_append]
          show _ + 1 ≤ _ + 1
          omega
      · refine ⟨fun g hg => up (h1 g hg), h2.append (List.Sublist.refl _), ?_⟩
        rw [List.length_append]
        exact Nat.le_trans h3 (Nat.le_add_right _ _)
  have h := this ws.reverse
  rw [List.reverse_reverse] at h
  exact h
theorem grpW_sub (ws : List Str) : (∀ g ∈ grpW ws, g.Sublist ws) ∧ (grpW ws).length ≤ ws.length + 1 := by
  obtain ⟨h1, h2, h3⟩ := grp_sub ws
  refine ⟨fun g hg => ?_, ?_⟩
  · rcases List.mem_append.mp hg with hg | hg
    · exact h1 g hg
    · rw [List.mem_singleton.mp hg]; exact h2
  · unfold grpW
    rw [List.length_append]
    show _ + 1 ≤ _
    omega
theorem all_take {α : Type} {p : α → Bool} {xs : List α} {i : Nat} {x : α} (hi : xs[i]? = some x) (h : (xs.take i).all p = true) (hx : p x = true) : (xs.take (i + 1)).all p = true := by
  obtain ⟨hl, e⟩ := List.getElem?_eq_some_iff.mp hi
  rw [List.take_succ_eq_append_getElem hl, List.all_append, h, e]
  simpa using hx
theorem take_snoc {α : Type} {xs : List α} {i : Nat} {x : α} (hi : xs[i]? = some x) : xs.take (i + 1) = xs.take i ++ [x] := by
  obtain ⟨hl, e⟩ := List.getElem?_eq_some_iff.mp hi
  rw [List.take_succ_eq_append_getElem hl, e]
/-! what the readers tell -/
theorem edW_some {ws : List Str} {k : Str} {i : Int} {r : List Str} (h : edW ws = some (k, i, r)) : (k = "put" ∨ k = "cut" ∨ k = "turn") ∧ r.Sublist ws ∧ (k = "cut" → r = []) := by
  match ws, h with
  | [], h => cases h
  | [_], h => cases h
  | k' :: n :: r', h =>
    unfold edW at h
    simp only at h
    split at h
    · rename_i hk
      cases hn : numW n with
      | none => rw [hn] at h; cases h
      | some j =>
        rw [hn] at h
        simp only [Option.bind_some] at h
        split at h
        · split at h
          · cases h
            exact ⟨hk, List.nil_sublist _, fun _ => rfl⟩
          · cases h
        · rename_i hc
          split at h
          · cases h
            exact ⟨hk, (List.sublist_cons_self _ _).trans (List.sublist_cons_self _ _), fun z => absurd z hc⟩
          · cases h
    · cases h
/-- an edit as read, its thing as words -/
def edRes (k : Str) (i : Int) (r : List Str) : D := if k = "cut" then .tup [.str k, .int i] else .tup [.str k, .int i, .lst (r.map .str)]
theorem mkEd_d {k : Str} {i : Int} {s : Str} (hk : k = "put" ∨ k = "cut" ∨ k = "turn") : (mkEd k i s).d = if k = "cut" then .tup [.str k, .int i] else .tup [.str k, .int i, .str s] := by
  rcases hk with rfl | rfl | rfl
  · rfl
  · rfl
  · rfl
/-- a module's number -/
theorem v_gint {X : Cx} {ro : Ro} {om : Om} {x : Str} {i : Int} {pos : Pos} (h : ∃ t, X.mg x = some (.int i t)) (hg : Gl X x) (hd : (x == ("__debug__" : Str)) = false := by decide) : wv X ro om (.Name x pos) (.int i) := by
  obtain ⟨t, ht⟩ := h
  exact v_glob (v := .int i) ht ⟨t, rfl⟩ (fun _ _ => rfl) hg hd
end Mo

set_option Elab.async false
set_option linter.all false
set_option maxRecDepth 100000
set_option maxHeartbeats 4000000
set_option autoImplicit false
/-! A shown deed is read as the deed. -/
namespace Mo
open PySem PySem.Spec PyProof.Rows L2
theorem putOffW_no {ws : List Str} {t : List Str} : putOffW ws ≠ some (.mv (.matter t)) := by
  intro h
  unfold putOffW at h
  split at h
  · rename_i k n
    split at h
    · cases h2 : numW n with
      | none => rw [h2] at h; cases h
      | some i =>
        rw [h2] at h
        simp only [Option.bind_some] at h
        split at h <;> cases h
    · cases h
  · cases h
theorem plainW_no {ws : List Str} {t : List Str} : plainW ws ≠ some (.mv (.matter t)) := by
  intro h
  unfold plainW at h
  split at h
  · split at h
    · cases h
    · split at h
      · cases h
      · split at h
        · cases h
        · split at h <;> cases h
  · rename_i k n
    split at h
    · cases h2 : numW n <;> rw [h2] at h <;> cases h
    · cases h
  · rename_i k a n
    split at h
    · cases h2 : numW a with
      | none => rw [h2] at h; cases h
      | some i =>
        rw [h2] at h
        simp only [Option.bind_some] at h
        cases h3 : numW n <;> rw [h3] at h <;> cases h
    · cases h
  · cases h
theorem split_clause {ws : List Str} (hne : ws ≠ []) (h : ∀ w ∈ ws, 32 ∉ TL.tl w) : Txt.split (clauseC ws) sp = ws := by
  unfold clauseC
  exact TL.split_join (y := sp) (s := 32) (S := []) tl_sp (by decide +kernel) hne h
/-- the words of a deed's row -/
def rowWs : Dd → List Str
  | .mv (.putOff n) => ["put", "off", strI n]
  | e => e.ws
theorem rowWs_ne (e : Dd) : rowWs e ≠ [] := by
  cases e with
  | mv t => cases t <;> simp [rowWs, Dd.ws, Td.ws]
  | vote a n => simp [rowWs, Dd.ws]
  | drop => simp [rowWs, Dd.ws]
  | take k => simp [rowWs, Dd.ws]
theorem put_off_eq : clauseC ["put", "off"] = ("put off" : Str) := by decide +kernel
theorem showD_row (e : Dd) : showD e = clauseC (rowWs e) := by
  cases e with
  | mv t =>
    cases t with
    | putOff n =>
      show clauseC [("put off" : Str), strI n] = clauseC ((["put", "off"] : List Str) ++ [strI n])
      rw [← put_off_eq, clause_nest (by simp)]
    | _ => rfl
  | _ => rfl
theorem strI_blank {i : Int} (h : 0 ≤ i) : 32 ∉ TL.tl (strI i) := fun m => by
  rw [strI_tl h] at m
  have := TL.numL_digits i.toNat 32 m
  omega
theorem cl_words {c : Str} (h : IsCl c) : (∀ w ∈ wordsC c, IsWord w) ∧ clauseC (wordsC c) = c ∧ (wordsC c).length ≤ 100 := by
  obtain ⟨ws, h1, rfl, h2⟩ := h
  rw [words_clause h1]
  exact ⟨h1, rfl, h2⟩
theorem word_words {s : Str} (h : IsWord s) : wordsC s = [s] := by
  have := words_clause (ws := [s]) fun w hw => by rw [List.mem_singleton.mp hw]; exact h
  rw [show clauseC [s] = s from by apply str_ext; rw [tl_clause]; rfl] at this
  exact this
theorem word_cl {s : Str} (h : IsWord s) : IsCl s := ⟨[s], (fun w hw => by rw [List.mem_singleton.mp hw]; exact h), by apply str_ext; rw [tl_clause]; rfl, by show 1 ≤ 100; decide⟩
theorem kw_blank : ∀ k ∈ (["matter", "/", "change", "mend", "put", "cut", "turn", "off", "close", "lay", "rest", "point", "vote", "drop", "take"] : List Str), 32 ∉ TL.tl k := by decide +kernel
/-- no blank in the words of a text, of an edit -/
theorem text_blank {t : List Str} (h : ∀ c ∈ t, IsCl c) : ∀ w ∈ textWs t, 32 ∉ TL.tl w := fun w hw => by
  obtain ⟨c, hc, hw⟩ := List.mem_flatMap.mp hw
  rcases List.mem_cons.mp hw with rfl | hw
  · exact kw_blank _ (by simp)
  · exact ((cl_words (h c hc)).1 w hw).blank
def wfEd (e : Ed) : Prop := wfI e.at_ ∧ (e.kd ≠ "cut" → IsCl e.th)
theorem ed_blank {e : Ed} (h : wfEd e) : ∀ w ∈ edWs e, 32 ∉ TL.tl w := fun w hw => by
  cases e with
  | cut a =>
    rcases List.mem_cons.mp hw with rfl | hw
    · exact kw_blank _ (by simp)
    · rw [List.mem_singleton.mp hw]
      exact strI_blank h.1.1
  | put a s =>
    rcases List.mem_cons.mp hw with rfl | hw
    · exact kw_blank _ (by simp)
    · rcases List.mem_cons.mp hw with rfl | hw
      · exact strI_blank h.1.1
      · exact ((cl_words (h.2 (show ¬ (("put" : Str) = "cut") by decide))).1 w hw).blank
  | turn a s =>
    rcases List.mem_cons.mp hw with rfl | hw
    · exact kw_blank _ (by simp)
    · rcases List.mem_cons.mp hw with rfl | hw
      · exact strI_blank h.1.1
      · exact ((cl_words (h.2 (show ¬ (("turn" : Str) = "cut") by decide))).1 w hw).blank
theorem wf_change {e : Ed} (h : wfT (.change e)) : wfEd e := ⟨h.1, fun _ => h.2⟩
theorem wf_mend {e : Ed} (h : wfT (.mend e)) : wfEd e := ⟨h.1, fun k => word_cl (h.2 k)⟩
theorem row_blank {e : Dd} (h : wfD e) : ∀ w ∈ rowWs e, 32 ∉ TL.tl w := by
  have k1 : ∀ {k : Str} {r : List Str}, k ∈ (["matter", "/", "change", "mend", "put", "cut", "turn", "off", "close", "lay", "rest", "point", "vote", "drop", "take"] : List Str) → (∀ w ∈ r, 32 ∉ TL.tl w) → ∀ w ∈ k :: r, 32 ∉ TL.tl w := fun hk hr w hw => by
    rcases List.mem_cons.mp hw with rfl | hw
    · exact kw_blank _ hk
    · exact hr w hw
  have k0 : ∀ w ∈ ([] : List Str), 32 ∉ TL.tl w := fun w hw => by cases hw
  have kn : ∀ {i : Int} {r : List Str}, 0 ≤ i → (∀ w ∈ r, 32 ∉ TL.tl w) → ∀ w ∈ strI i :: r, 32 ∉ TL.tl w := fun hi hr w hw => by
    rcases List.mem_cons.mp hw with rfl | hw
    · exact strI_blank hi
    · exact hr w hw
  cases e with
  | mv t =>
    cases t with
    | matter t => exact k1 (by simp) (text_blank h.1)
    | change e => exact k1 (by simp) (ed_blank (wf_change h))
    | mend e => exact k1 (by simp) (ed_blank (wf_mend h))
    | putOff n => exact k1 (by simp) (k1 (by simp) (kn (by have : 1 ≤ n := h.1; omega) k0))
    | close => exact k1 (by simp) k0
    | lay => exact k1 (by simp) k0
    | rest => exact k1 (by simp) k0
    | point s => exact k1 (by simp) fun w hw => ((cl_words h).1 w hw).blank
  | vote a n => exact k1 (by simp) (kn h.1.1 (kn h.2.1 k0))
  | drop => exact k1 (by simp) k0
  | take k => exact k1 (by simp) (kn h.1 k0)
theorem edW_cons {k n : Str} {r : List Str} (hk : k = "put" ∨ k = "cut" ∨ k = "turn") : edW (k :: n :: r) = (numW n).bind fun i => if k = "cut" then (if r = [] then some (k, i, []) else none) else (if checkW r = true then some (k, i, r) else none) := if_pos hk
theorem putOffW_off {k n : Str} (hk : k = "off") : putOffW [k, n] = (numW n).bind fun i => if 1 ≤ i ∧ i ≤ 999999999 then some (.mv (.putOff i)) else none := if_pos hk
theorem edW_edWs {e : Ed} (h : wfEd e) : edW (edWs e) = some (e.kd, e.at_, if e.kd = "cut" then [] else wordsC e.th) := by
  cases e with
  | cut a =>
    have h1 : wfI a := h.1
    refine (edW_cons (.inr (.inl rfl))).trans ?_
    rw [numW_strI h1]
    rfl
  | put a s =>
    have nc : ¬ (("put" : Str) = "cut") := by decide
    have h1 : wfI a := h.1
    show edW (("put" : Str) :: strI a :: wordsC s) = some (("put" : Str), a, if ("put" : Str) = "cut" then [] else wordsC s)
    refine (edW_cons (.inl rfl)).trans ?_
    rw [numW_strI h1, Option.bind_some, if_neg nc, if_pos (show checkW (wordsC s) = true from checkW_ok (cl_words (h.2 nc)).1), if_neg nc]
  | turn a s =>
    have nc : ¬ (("turn" : Str) = "cut") := by decide
    have h1 : wfI a := h.1
    show edW (("turn" : Str) :: strI a :: wordsC s) = some (("turn" : Str), a, if ("turn" : Str) = "cut" then [] else wordsC s)
    refine (edW_cons (.inr (.inr rfl))).trans ?_
    rw [numW_strI h1, Option.bind_some, if_neg nc, if_pos (show checkW (wordsC s) = true from checkW_ok (cl_words (h.2 nc)).1), if_neg nc]
theorem readW_row {e : Dd} (h : wfD e) : readW (rowWs e) = some e := by
  cases e with
  | mv t =>
    cases t with
    | matter t =>
      show (textW (textWs t)).map _ = _
      rw [textW_text h.1]
      rfl
    | change e =>
      show changeW (edWs e) = _
      unfold changeW
      rw [edW_edWs (wf_change h)]
      cases e with
      | cut a => rfl
      | put a s =>
        have : clauseC (wordsC s) = s := (cl_words h.2).2.1
        show some (Dd.mv (.change (mkEd "put" a (clauseC (wordsC s))))) = _
        rw [this]; rfl
      | turn a s =>
        have : clauseC (wordsC s) = s := (cl_words h.2).2.1
        show some (Dd.mv (.change (mkEd "turn" a (clauseC (wordsC s))))) = _
        rw [this]; rfl
    | mend e =>
      show mendW (edWs e) = _
      unfold mendW
      rw [edW_edWs (wf_mend h)]
      cases e with
      | cut a => rfl
      | put a s =>
        have hw : IsWord s := h.2 (show ¬ (("put" : Str) = "cut") by decide)
        show (match wordsC s with | [x] => some (Dd.mv (.mend (mkEd "put" a x))) | _ => none) = _
        rw [word_words hw]; rfl
      | turn a s =>
        have hw : IsWord s := h.2 (show ¬ (("turn" : Str) = "cut") by decide)
        show (match wordsC s with | [x] => some (Dd.mv (.mend (mkEd "turn" a x))) | _ => none) = _
        rw [word_words hw]; rfl
    | putOff n =>
      show putOffW ["off", strI n] = _
      have hn : wfI n := ⟨by have := h.1; omega, by have : n ≤ 999999999 := h.2; show n < 10000000000; omega⟩
      refine (putOffW_off rfl).trans ?_
      rw [numW_strI hn, Option.bind_some, if_pos (show 1 ≤ n ∧ n ≤ 999999999 from h)]
    | close => rfl
    | lay => rfl
    | rest => rfl
    | point s =>
      show (if checkW (wordsC s) = true then some (Dd.mv (.point (clauseC (wordsC s)))) else none) = _
      rw [if_pos (checkW_ok (cl_words h).1), (cl_words h).2.1]
  | vote a n =>
    show (numW (strI a)).bind (fun i => (numW (strI n)).map fun j => Dd.vote i j) = _
    rw [numW_strI h.1, numW_strI h.2]
    rfl
  | drop => rfl
  | take k =>
    show (numW (strI k)).map Dd.take = _
    rw [numW_strI h]
    rfl
theorem readR_show {e : Dd} (h : wfD e) : readR (showD e) = some e := by
  unfold readR
  rw [showD_row, split_clause (rowWs_ne e) (row_blank h)]
  exact readW_row h
theorem showD_inj {e e' : Dd} (h : wfD e) (h' : wfD e') (z : showD e = showD e') : e = e' := by
  have := readR_show h
  rw [z, readR_show h'] at this
  exact (Option.some.inj this).symm
/-! sizes -/
theorem textWs_len {t : List Str} (h : ∀ c ∈ t, IsCl c) : (textWs t).length ≤ t.length * 101 := by
  unfold textWs
  rw [List.length_flatMap]
  refine sum_le (f := fun c : Str => (("/" : Str) :: wordsC c).length) fun c hc => ?_
  rw [List.length_cons]
  have := (cl_words (h c hc)).2.2
  omega
theorem edWs_len {e : Ed} (h : wfEd e) : (edWs e).length ≤ 102 := by
  cases e with
  | cut a => show 2 ≤ _; decide
  | put a s =>
    have := (cl_words (h.2 (show ¬ (("put" : Str) = "cut") by decide))).2.2
    have : (wordsC s).length ≤ 100 := this
    show (wordsC s).length + 1 + 1 ≤ _
    omega
  | turn a s =>
    have := (cl_words (h.2 (show ¬ (("turn" : Str) = "cut") by decide))).2.2
    have : (wordsC s).length ≤ 100 := this
    show (wordsC s).length + 1 + 1 ≤ _
    omega
theorem row_count {e : Dd} (h : wfD e) : (rowWs e).length ≤ 20000 := by
  cases e with
  | mv t =>
    cases t with
    | matter t =>
      have h1 := textWs_len h.1
      have h2 : t.length ≤ 100 := h.2
      show (textWs t).length + 1 ≤ _
      omega
    | change e =>
      have := edWs_len (wf_change h)
      show (edWs e).length + 1 ≤ _
      omega
    | mend e =>
      have := edWs_len (wf_mend h)
      show (edWs e).length + 1 ≤ _
      omega
    | putOff n => show 3 ≤ _; decide
    | close => show 1 ≤ _; decide
    | lay => show 1 ≤ _; decide
    | rest => show 1 ≤ _; decide
    | point s =>
      have : (wordsC s).length ≤ 100 := (cl_words h).2.2
      show (wordsC s).length + 1 ≤ _
      omega
  | vote a n => show 3 ≤ _; decide
  | drop => show 1 ≤ _; decide
  | take k => show 2 ≤ _; decide
theorem row_each {e : Dd} (h : wfD e) : ∀ w ∈ rowWs e, w.length ≤ 20 := by
  have kl : ∀ k ∈ (["matter", "/", "change", "mend", "put", "cut", "turn", "off", "close", "lay", "rest", "point", "vote", "drop", "take"] : List Str), k.length ≤ 20 := by decide +kernel
  have k1 : ∀ {k : Str} {r : List Str}, k ∈ (["matter", "/", "change", "mend", "put", "cut", "turn", "off", "close", "lay", "rest", "point", "vote", "drop", "take"] : List Str) → (∀ w ∈ r, w.length ≤ 20) → ∀ w ∈ k :: r, w.length ≤ 20 := fun hk hr w hw => by
    rcases List.mem_cons.mp hw with rfl | hw
    · exact kl _ hk
    · exact hr w hw
  have k0 : ∀ w ∈ ([] : List Str), w.length ≤ 20 := fun w hw => by cases hw
  have kn : ∀ {i : Int} {r : List Str}, wfI i → (∀ w ∈ r, w.length ≤ 20) → ∀ w ∈ strI i :: r, w.length ≤ 20 := fun hi hr w hw => by
    rcases List.mem_cons.mp hw with rfl | hw
    · exact Nat.le_trans (strI_len hi.sm) (by decide)
    · exact hr w hw
  have kc : ∀ {c : Str}, IsCl c → ∀ w ∈ wordsC c, w.length ≤ 20 := fun hc w hw => ((cl_words hc).1 w hw).hi
  have ke : ∀ {e : Ed}, wfEd e → ∀ w ∈ edWs e, w.length ≤ 20 := fun {e} he => by
    cases e with
    | cut a => exact k1 (by simp) (kn he.1 k0)
    | put a s => exact k1 (by simp) (kn he.1 (kc (he.2 (show ¬ (("put" : Str) = "cut") by decide))))
    | turn a s => exact k1 (by simp) (kn he.1 (kc (he.2 (show ¬ (("turn" : Str) = "cut") by decide))))
  cases e with
  | mv t =>
    cases t with
    | matter t =>
      refine k1 (by simp) fun w hw => ?_
      obtain ⟨c, hc, hw⟩ := List.mem_flatMap.mp hw
      exact k1 (by simp) (kc (h.1 c hc)) w hw
    | change e => exact k1 (by simp) (ke (wf_change h))
    | mend e => exact k1 (by simp) (ke (wf_mend h))
    | putOff n => exact k1 (by simp) (k1 (by simp) (kn ⟨by have : 1 ≤ n := h.1; omega, by have : n ≤ 999999999 := h.2; show n < 10000000000; omega⟩ k0))
    | close => exact k1 (by simp) k0
    | lay => exact k1 (by simp) k0
    | rest => exact k1 (by simp) k0
    | point s => exact k1 (by simp) (kc h)
  | vote a n => exact k1 (by simp) (kn h.1 (kn h.2 k0))
  | drop => exact k1 (by simp) k0
  | take k => exact k1 (by simp) (kn h k0)
theorem showD_sm {e : Dd} (h : wfD e) : (showD e).length ≤ 900000 ∧ (Txt.split (showD e) sp).length ≤ 99000 := by
  have h1 := row_count h
  rw [showD_row, split_clause (rowWs_ne e) (row_blank h)]
  refine ⟨Nat.le_trans (clause_len _) ?_, by omega⟩
  have := sum_le (f := fun s : Str => s.length) (m := 20) (l := rowWs e) (row_each h)
  omega
/-- a pair whose second is a new list -/
theorem v_tupN {X : Cx} {ro : Ro} {om : Om} {e : Expr} {k : Str} {ds : List D} (h : ∀ (R : RX) (Q : DK), (∀ p, om p = none → Q (.tup [.str k, .obj p]) (ups om p (.lst ds))) → we X R ro om e Q) : wv X ro om e (.tup [.str k, .lst ds]) := .mk fun R Q q => .mk fun om0 H0 t σ H o => by
  refine pE_mono (h R (fun d om1 => ∃ p, d = .tup [.str k, .obj p] ∧ om p = none ∧ om1 = ups om p (.lst ds)) (fun p hp => ⟨p, rfl, hp, rfl⟩) om0 H0 t σ H o) fun v H1 ⟨d, om1, ⟨p, e1, e2, e3⟩, o1, r⟩ => ?_
  subst e1 e3
  obtain ⟨o2, r2⟩ := o1.tree (om1 := om) ups_same
  have r3 := r.mono (Stable.del (a := p))
  obtain ⟨a, xs, rfl, ha, x1, y1, rfl, rx1, x2, y2, rfl, rx2, rfl⟩ := r3
  cases rx2
  rw [dels_ups e2] at o2 r2 ha rx1
  exact ⟨_, _, q, o2, ⟨a, _, rfl, ha, x1, _, rfl, rx1, _, _, rfl, r2, rfl⟩⟩
/-- what tells a deed is a pair of a word and more -/
theorem DdAt.tup {om : Om} {x : D} {e : Dd} (h : DdAt om x e) : ∃ k r, x = .tup (.str k :: r) := by
  cases e with
  | mv t =>
    cases t with
    | matter t => obtain ⟨y, rfl, _⟩ := h; exact ⟨_, _, rfl⟩
    | _ => cases h; exact ⟨_, _, rfl⟩
  | _ => cases h; exact ⟨_, _, rfl⟩
theorem DdAt.pd {om : Om} {x : D} {e : Dd} (h : DdAt om x e) : Pd om x e.p := by
  cases e with
  | mv t =>
    cases t with
    | matter t =>
      obtain ⟨y, rfl, l⟩ := h
      rcases l with rfl | ⟨a, rfl, ha⟩
      · exact Dd.pd (.mv (.matter t))
      · exact Pd.t (.cons (Pd.str _) (.cons (Pd.o ha (PdL.strs _)) .nil))
    | _ => cases h; exact Td.pd _
  | _ => cases h; exact Dd.pd _
/-- a comprehension over pairs, for two names -/
theorem n_lc2 {X : Cx} {ro : Ro} {om : Om} {elt iter : Expr} {scope : Scope} {pos : Pos} {α : Type} {xs : List α} {f1 f2 g : α → D} {Pm : Om → Prop} {xn yn : Str} {p q tp : Pos} {tk : Nat} (i j : Nat) (hij : i ≠ j) {N : List Str} {sc : Scope} (hN : X.N = N) (hsc : X.env.scope = sc) (nd : X.N.Nodup) (hc : X.calm = true)
    (hb : blkB N sc scope [(xn, i), (yn, j)] = true) (hlx : (scope.names.lookup xn == some .local) = true) (hly : (scope.names.lookup yn == some .local) = true)
    (hi : Itd X ro om (.Tuple [.Name xn p, .Name yn q] tk tp) iter (xs.map fun x => .tup [f1 x, f2 x]) Pm) (hP : ∀ om', Ext om om' → Pm om') (hz : xs.length ≤ 100000)
    (he : ∀ (k : Nat) (x : α), xs[k]? = some x → ∀ (s : Shared) (H : Hp) (C : Addr) (cl : List (Str × Addr)) (fp : List Addr) (om' : Om), Ext om om' → wv (X.blk s H scope (compEnvC scope cl C X.env) fp) ((((ro.set j none).set i none).set i (some (f1 x))).set j (some (f2 x))) om' elt (g x)) (hs : ∀ x, foldedSetIterable iter X.env x = pure x := by intro _; rfl) :
    wn X ro om (.ListComp elt [⟨.Tuple [.Name xn p, .Name yn q] tk tp, iter, [], 0⟩] scope pos) (xs.map g) := by
  have ok : BlkOk X.N X.env.scope scope [(xn, i), (yn, j)] := blk_ok hN hsc hb
  refine n_lc (own := [(xn, i), (yn, j)]) (g := gTup X.K 2 (gCons (gName i) (gCons (gName j) gNil))) (U := fun d ro => match d with | .tup [d1, d2] => (ro.set i (some d1)).set j (some d2) | _ => ro) hi hP (by rw [List.length_map, List.length_map]) (by rw [List.length_map]; exact hz) ?_ ?_ ?_ ok ?_ hc nd hs
  · intro s H C cl fp d hd
    obtain ⟨x, _, rfl⟩ := List.mem_map.mp hd
    exact tg_2 i j
  · intro σ v H0 Q h
    obtain ⟨a, ys, e1, hq, hl, v1, r1, e2, v2, r2, e3, e4, hQ⟩ := h
    refine ⟨a, ys, e1, hq, hl, v1, r1, e2, v2, r2, e3, e4, ?_, hQ⟩
    show (((((σ.set j none).set i none).set i (some v1)).set j (some v2)).set j none).set i none = (σ.set j none).set i none
    rw [List.set_set, List.set_set, List.set_comm _ _ hij, List.set_set, List.set_set]
  · intro k d z hd hzz
    obtain ⟨x, hx, rfl⟩ := map_item hd
    obtain ⟨x', hx', rfl⟩ := map_item hzz
    rw [hx] at hx'
    cases hx'
    exact he k x hx
  · intro s H C cl fp
    have ex : (X.blk s H scope (compEnvC scope cl C X.env) fp).env.scope.names.lookup xn = some .local := lookup_relabel_local (beq_iff_eq.mp hlx)
    have ey : (X.blk s H scope (compEnvC scope cl C X.env) fp).env.scope.names.lookup yn = some .local := lookup_relabel_local (beq_iff_eq.mp hly)
    exact pg_tup (X := X.blk s H scope (compEnvC scope cl C X.env) fp) hc (pgs_cons (pg_name nd (ok.ix (xn, i) (by simp)) (.inl ex) (.inr ex)) (pgs_cons (pg_name nd (ok.ix (yn, j) (by simp)) (.inl ey) (.inr ey)) pgs_nil)) rfl rfl
end Mo

set_option Elab.async false
set_option linter.all false
set_option maxRecDepth 100000
set_option maxHeartbeats 4000000
set_option autoImplicit false
/-! A text times a number. -/
namespace Mo
open PySem PySem.Spec PyProof.Rows L2 PySem
theorem op_mul_str {X : Cx} : OpR X (binaryOp .Mult) (fun x y H Q => ∃ i j, x = .str i ∧ y = .int j ∧ MulOk i j ∧ Q (.str (Txt.mul i j)) H) := by
  intro pins s σ H x y v u Q I rx ry h
  obtain ⟨i, j, rfl, rfl, hz, q⟩ := h
  obtain ⟨t, rfl⟩ := rx
  obtain ⟨t', rfl⟩ := ry
  exact SB.mul hz (fun t' tk => ⟨.str (Txt.mul i j), H, I.tok _, ⟨_, rfl⟩, q⟩)
theorem o_mulS {X : Cx} {om : Om} {i : Str} {j : Int} (h : MulOk i j) : Op X om (binaryOp .Mult) (.str i) (.int j) (.str (Txt.mul i j)) := .of op_mul_str fun H v u S rx ry Q q => by cases rx; cases ry; exact ⟨i, j, rfl, rfl, h, q _ rfl⟩
end Mo

set_option Elab.async false
set_option linter.all false
set_option maxRecDepth 100000
set_option maxHeartbeats 4000000
set_option autoImplicit true
namespace Law
open PySem L2 Mo
local macro_rules | `(tactic| exact "ro") => `(tactic| try (conv => arg 3; simp only [List.set, List.set_cons_succ, List.set_cons_zero]))
local macro_rules | `(tactic| exact "st") => `(tactic| ((conv => arg 5; whnf); (conv => arg 3; simp only [startD, List.map_cons, List.map_nil, List.length_cons, List.length_nil, List.cons_append, List.nil_append, Nat.reduceAdd, Nat.reduceSub, List.reduceReplicate])))
local macro_rules | `(tactic| exact "sd") => `(tactic| first | exact nomark _ | rfl | (intro _; rfl) | (intro _ _; rfl) | decide)
local macro_rules | `(tactic| exact "nm") => `(tactic| ((with_reducible apply NameAt.v); first | ((with_reducible assumption); rfl) | (((with_reducible apply blk_name); (first | exact NameAt.at_ (by assumption) | assumption); decide +kernel); rfl)))
local macro_rules | `(tactic| exact "ar") => `(tactic| first | omega | decide | assumption | (simp [sizeLine_eq]; done) | (simp [sizeLine_eq]; omega))
local macro_rules | `(tactic| exact "op") => `(tactic| first
  | with_reducible exact o_add | with_reducible exact o_sub | ((with_reducible apply o_mul); first | (left; constructor <;> omega) | (right; constructor <;> omega)) | ((with_reducible apply o_div); exact ⟨by omega, by omega⟩) | ((with_reducible apply o_mod); first | omega | decide) | ((with_reducible apply o_pow); exact ⟨by decide, by decide, by decide⟩)
  | ((with_reducible apply o_addS); (focus exact "ar")))
local macro_rules | `(tactic| exact "cm") => `(tactic| first
  | with_reducible exact c_eqS | with_reducible exact c_neS | with_reducible exact c_lt | with_reducible exact c_le | with_reducible exact c_gt | with_reducible exact c_ge | with_reducible exact c_eqI | with_reducible exact c_neI | with_reducible exact c_eqB | with_reducible exact c_neB | with_reducible exact c_is | with_reducible exact c_isnot)
local macro_rules | `(tactic| exact "gl") => `(tactic| first | exact gl_of (by assumption) (by decide +kernel) | exact blk_gl (by decide +kernel) | rfl)
local macro_rules | `(tactic| exact "av") => `(tactic| first | with_reducible exact av_nil | ((with_reducible apply av_cons); (focus exact "v"); (focus exact "av"); (focus exact "sd")))
local macro_rules | `(tactic| exact "bi") => `(tactic| first
  | with_reducible exact Blt.bLen (by assumption) | with_reducible exact Blt.bMax (by assumption) | with_reducible exact Blt.bMin (by assumption) | with_reducible exact Blt.bInt (by assumption) | with_reducible exact Blt.bStr (by assumption) | with_reducible exact Blt.bList (by assumption) | with_reducible exact Blt.bAny (by assumption) | with_reducible exact Blt.bAll (by assumption) | with_reducible exact Blt.bSum (by assumption) | with_reducible exact Blt.bIsi (by assumption))
local macro_rules | `(tactic| exact "lr") => `(tactic| first | with_reducible assumption | with_reducible exact Lr.im | ((with_reducible apply Lr.ob); first | assumption | exact ups_same))
local macro_rules | `(tactic| exact "cv") => `(tactic| first
  | with_reducible exact b_lenC | with_reducible exact b_lenT | with_reducible exact b_max (by assumption) | with_reducible exact b_min (by assumption) | with_reducible exact b_intB | ((with_reducible apply b_lenS); (focus exact "ar")) | ((with_reducible apply b_lenL); (focus exact "lr")) | ((with_reducible apply b_str); (focus exact "ar")) | ((with_reducible apply b_any); (focus exact "lr"); assumption) | ((with_reducible apply b_all); (focus exact "lr"); assumption) | ((with_reducible apply b_sum); (focus exact "lr"); assumption))
local macro_rules | `(tactic| exact "ix") => `(tactic| first | ((with_reducible apply ix_T); (focus exact "at")) | ((with_reducible apply ix_scr); (focus exact "at")) | ((with_reducible apply ix_L); (focus exact "lr"); (focus exact "at")) | ((with_reducible apply ix_S); (focus exact "ar"); (focus exact "at")))
local macro_rules | `(tactic| exact "at") => `(tactic| first | with_reducible exact at_0 | with_reducible exact at_1 | with_reducible exact at_2 | (with_reducible assumption) | rfl)
local macro_rules | `(tactic| exact "kl") => `(tactic| first | with_reducible exact Blt.kBool (by assumption) | with_reducible exact Blt.kInt (by assumption) | with_reducible exact Blt.kStr (by assumption) | with_reducible exact Blt.kList (by assumption) | with_reducible exact Blt.kTuple (by assumption) | ((with_reducible apply Kl.own); assumption; decide))
local macro_rules | `(tactic| exact "ty") => `(tactic| first | with_reducible exact Ty.non | with_reducible exact Ty.bl | with_reducible exact Ty.int | with_reducible exact Ty.str | with_reducible exact Ty.tup | ((with_reducible apply Ty.lst); (focus exact "lr")))
local macro_rules | `(tactic| exact "kt") => `(tactic| first | exact kit_ty (r := true) (by decide +kernel) | exact kit_ty (r := false) (by decide +kernel) | assumption)
local macro_rules | `(tactic| exact "v") => `(tactic| first
  | (with_reducible exact v_int) | (with_reducible exact v_str) | (with_reducible exact v_bl) | (with_reducible exact v_non) | exact "nm"
  | ((with_reducible apply v_ix); (focus exact "v"); (focus exact "v"); (focus exact "ix"); exact un_1 (by assumption); (focus exact "sd"))
  | ((with_reducible apply v_isi); (focus exact "v"); (focus exact "ty"); (focus exact "kl"); (focus exact "kt"); (focus exact "bi"); (focus exact "gl"); (focus exact "gl"); (focus exact "sd"); (focus exact "sd"); (focus exact "sd"))
  | exact "call"
  | ((with_reducible apply v_bi); (focus exact "av"); (focus exact "bi"); (focus exact "cv"); (focus exact "gl"); (focus exact "sd"); (focus exact "sd"))
  | ((with_reducible apply v_op); (focus exact "v"); (focus exact "v"); (focus exact "op"))
  | ((with_reducible apply v_cmp); (focus exact "v"); (focus exact "v"); (focus exact "cm"); (focus exact "sd"))
  | ((with_reducible apply v_tup); (focus exact "av"); (focus exact "ar"))
  | ((with_reducible apply v_lst); (focus exact "av"); (focus exact "ar"))
  | ((with_reducible apply v_neg); (focus exact "v")) | ((with_reducible apply v_not); (focus exact "v"))
  | ((with_reducible apply v_chain); (focus exact "v"); (focus exact "v"); (focus exact "cm"); intro _; (focus exact "v"); intro _; (focus exact "cm"); (focus exact "sd"))
  | ((with_reducible apply v_or); (focus exact "v"); intro _; (focus exact "v")) | ((with_reducible apply v_and); (focus exact "v"); intro _; (focus exact "v")) | ((with_reducible apply v_bool1); (focus exact "v")))
local macro_rules | `(tactic| exact "wb") => `(tactic| first
  | ((with_reducible apply b_and); (focus exact "t"); intro _; (focus exact "wb")) | ((with_reducible apply b_or); (focus exact "t"); intro _; (focus exact "wb")) | ((with_reducible apply b_and1); (focus exact "t")) | ((with_reducible apply b_or1); (focus exact "t")))
local macro_rules | `(tactic| exact "t") => `(tactic| first
  | ((with_reducible apply tv_cmp); (focus exact "v"); (focus exact "v"); (focus exact "cm"); (focus exact "sd"))
  | ((with_reducible apply tv_not); (focus exact "t"))
  | ((with_reducible apply tv_bool); (focus exact "wb"))
  | ((with_reducible apply tv_chain); (focus exact "v"); (focus exact "v"); (focus exact "cm"); intro _; (focus exact "v"); intro _; (focus exact "cm"); (focus exact "sd"))
  | ((with_reducible apply tv_val); (focus exact "v"); (focus exact "sd")))
local macro_rules | `(tactic| exact "asg") => `(tactic| ((with_reducible apply Lo.set); (focus (with_reducible assumption)); (focus assumption); (focus exact "v"); (case hs => exact "sd"); exact "ro"))
local macro_rules | `(tactic| exact "call") => `(tactic| ((with_reducible apply v_call); (with_reducible assumption); (exact Room.mono (by assumption) (by decide)); (focus exact "av"); rfl; (focus exact "pu"); (focus exact "gl"); decide; (focus exact "sd"); (focus exact "sd")))
local macro_rules | `(tactic| exact "ifI") => `(tactic| ((with_reducible apply Lo.ifI); (with_reducible assumption); assumption; (focus exact "t"); intro _; (focus exact "v"); rfl; (case hs => exact "sd"); exact "ro"))
local macro_rules | `(tactic| exact "po") => `(tactic| first | with_reducible exact po_no | ((with_reducible apply po_at); (focus exact "v")))
local macro_rules | `(tactic| exact "sl") => `(tactic| first | with_reducible exact s_scr | ((with_reducible apply s_L); (focus exact "lr")) | ((with_reducible apply s_S); (focus exact "ar")) | ((with_reducible apply s_T); decide))
local macro_rules | `(tactic| exact "sln") => `(tactic| first | with_reducible exact sn_scr | ((with_reducible apply sn_L); (focus exact "lr")))
local macro_rules | `(tactic| exact "n") => `(tactic| first
  | ((with_reducible apply n_lst); (focus exact "av"); (focus exact "ar"))
  | ((with_reducible apply n_sl); (focus exact "v"); (focus exact "po"); (focus exact "po"); (focus exact "sln"))
  | ((with_reducible apply n_bi); (focus exact "av"); (focus exact "bi"); (focus exact "cn"); (focus exact "gl"); (focus exact "sd"); (focus exact "sd"))
  | ((with_reducible apply n_add); (focus exact "v"); (focus exact "v"); (focus exact "lr"); (focus exact "lr"); (focus exact "ar"))
  | ((with_reducible apply n_call); (with_reducible assumption); (exact Room.mono (by assumption) (by decide)); (focus exact "av"); rfl; (focus exact "pn"); (focus exact "gl"); decide; (focus exact "sd"); (focus exact "sd"))
  | ((with_reducible apply n_split); (focus exact "v"); (focus exact "v"); decide +kernel; (focus exact "ar"); (focus exact "sd"); (focus exact "sd"); (focus exact "sd"); (focus exact "sd"); (focus exact "sd")))
local macro_rules | `(tactic| exact "cn") => `(tactic| first | ((with_reducible apply b_listL); (focus exact "lr")))
local macro_rules | `(tactic| exact "new") => `(tactic| ((with_reducible apply Lo.new); (with_reducible assumption); assumption; (focus exact "n"); (case hs => exact "sd"); (intro _ _; exact "ro")))
local macro_rules | `(tactic| exact "v") => `(tactic| first
  | ((with_reducible apply v_sl); (focus exact "v"); (focus exact "po"); (focus exact "po"); (focus exact "sl"))
  | ((with_reducible apply v_joinS); (focus exact "v"); (focus exact "lr"); (focus exact "ar"); (focus exact "sd"); (focus exact "sd"); (focus exact "sd"))
  | ((with_reducible apply v_join); (focus exact "v"); (focus exact "v"); (focus exact "lr"); (focus exact "ar"); (focus exact "sd"); (focus exact "sd"); (focus exact "sd"); (focus exact "sd"); (focus exact "sd"))
  | ((with_reducible apply wn.v); (focus exact "n")))
local macro_rules | `(tactic| exact "pdl") => `(tactic| first | with_reducible exact PdL.nil | with_reducible exact PdL.strs _ | with_reducible exact PdL.ints _ | ((with_reducible apply PdL.cons); (focus exact "pd"); (focus exact "pdl")) | ((with_reducible apply PdL.app); (focus exact "pdl"); (focus exact "pdl")) | exact "pdx")
local macro_rules | `(tactic| exact "pd") => `(tactic| first | with_reducible exact Pd.non | with_reducible exact Pd.bl _ | with_reducible exact Pd.int _ | with_reducible exact Pd.str _ | ((with_reducible apply Pd.l); (focus exact "pdl")) | ((with_reducible apply Pd.t); (focus exact "pdl")) | ((with_reducible apply Pd.o); (first | assumption | exact ups_same); (focus exact "pdl")))
local macro_rules | `(tactic| exact "pka") => `(tactic| first | with_reducible exact all_nil | ((with_reducible apply all_cons); (focus exact "pk"); (focus exact "pka")) | ((with_reducible apply all_app); (focus exact "pka"); (focus exact "pka")) | ((with_reducible apply all_map); intro _; (focus exact "pk")))
local macro_rules | `(tactic| exact "pk") => `(tactic| first | with_reducible exact pokn_none | with_reducible exact pokn_bool | with_reducible exact pokn_int | with_reducible exact pokn_str | (apply pokn_list; (focus exact "pka")) | (apply pokn_tuple; (focus exact "pka")))
local macro_rules | `(tactic| exact "cm") => `(tactic| first
  | ((with_reducible apply c_eqD); exact un_64 (by assumption); (focus exact "pd"); (focus exact "pd"); (first | (with_reducible assumption) | exact pok_of (by exact "pk")); (first | (with_reducible assumption) | exact pok_of (by exact "pk")))
  | ((with_reducible apply c_neD); exact un_64 (by assumption); (focus exact "pd"); (focus exact "pd"); (first | (with_reducible assumption) | exact pok_of (by exact "pk")); (first | (with_reducible assumption) | exact pok_of (by exact "pk")))
  | ((with_reducible apply c_in); exact un_65 (by assumption); (focus exact "pd"); (focus exact "pds"); (first | (with_reducible assumption) | exact pok_of (by exact "pk")); (first | (with_reducible assumption) | exact pok_of (by exact "pk")))
  | ((with_reducible apply c_notIn); exact un_65 (by assumption); (focus exact "pd"); (focus exact "pds"); (first | (with_reducible assumption) | exact pok_of (by exact "pk")); (first | (with_reducible assumption) | exact pok_of (by exact "pk"))))
local macro_rules | `(tactic| exact "cm") => `(tactic| first
  | with_reducible exact c_eqS | with_reducible exact c_neS | with_reducible exact c_lt | with_reducible exact c_le | with_reducible exact c_gt | with_reducible exact c_ge | with_reducible exact c_eqI | with_reducible exact c_neI | with_reducible exact c_eqB | with_reducible exact c_neB | with_reducible exact c_is | with_reducible exact c_isnot)
local macro_rules | `(tactic| exact "pds") => `(tactic| first | (left; (focus exact "pd"); done) | (right; (focus exact "pd"); done))
local macro_rules | `(tactic| exact "fo") => `(tactic| ((case hp => assumption); (case hc => assumption); (case hg => exact Lo.pg (by assumption) (by assumption)); (case hT => exact fun d _ => tg_name _)))
local macro_rules | `(tactic| exact "app") => `(tactic| ((with_reducible apply st_append); (focus exact "v"); (focus exact "v"); (first | assumption | exact ups_same); (focus exact "ar"); (case hbase => exact "sd"); (case hfew => exact "sd"); (case hline => exact "sd"); (case hs => exact "sd"); (case hplain => exact "sd"); (case hsw => exact "sd"); try simp only [ups_ups]))
local macro_rules | `(tactic| exact "ix") => `(tactic| first | with_reducible exact Ed.ix0 | with_reducible exact Ed.ix1)
local macro_rules | `(tactic| exact "ty") => `(tactic| with_reducible exact Ed.ty)
local macro_rules | `(tactic| exact "pd") => `(tactic| with_reducible exact Ed.pd _)
local macro_rules | `(tactic| exact "pk") => `(tactic| with_reducible exact Ed.pk _)
local macro_rules | `(tactic| exact "ix") => `(tactic| with_reducible assumption)
local macro_rules | `(tactic| exact "ty") => `(tactic| with_reducible assumption)
local macro_rules | `(tactic| exact "pd") => `(tactic| with_reducible assumption)
/-! ### the text by places -/
abbrev top (i : Nat) : Stmt := PySem.Challenge.pw_moot_k29_rows_refused.main.body.getD i (.Pass ⟨0, 0, 0, 0⟩)
abbrev s_clause_of : Stmt := top 15
abbrev N_clause_of : List Str := ["words"]
theorem sc_clause_of : FnScope N_clause_of ["words"] (defScope s_clause_of) := ⟨rfl, rfl, rfl, by decide +kernel, rfl, by decide +kernel, by decide +kernel⟩
abbrev d_clause_of : He.DefD := ⟨("clause_of", none), "clause_of", "clause_of", defArgs s_clause_of, defBody s_clause_of, defScope s_clause_of, [], []⟩
abbrev s_NoRow_init : Stmt := inClass (top 12) 0
abbrev N_NoRow_init : List Str := ["self", "row"]
theorem sc_NoRow_init : FnScope N_NoRow_init ["self", "row"] (defScope s_NoRow_init) := ⟨rfl, rfl, rfl, by decide +kernel, rfl, by decide +kernel, by decide +kernel⟩
abbrev d_NoRow_init : He.DefD := ⟨("NoRow", some "__init__"), "__init__", "NoRow.__init__", defArgs s_NoRow_init, defBody s_NoRow_init, defScope s_NoRow_init, [], []⟩
abbrev s_number_by : Stmt := top 18
abbrev N_number_by : List Str := ["word", "sign"]
theorem sc_number_by : FnScope N_number_by ["word"] (defScope s_number_by) := ⟨rfl, rfl, rfl, by decide +kernel, rfl, by decide +kernel, by decide +kernel⟩
abbrev d_number_by : He.DefD := ⟨("number_by", none), "number_by", "number_by", defArgs s_number_by, defBody s_number_by, defScope s_number_by, [], []⟩
abbrev s_check_words : Stmt := top 19
abbrev N_check_words : List Str := ["words", "word"]
theorem sc_check_words : FnScope N_check_words ["words"] (defScope s_check_words) := ⟨rfl, rfl, rfl, by decide +kernel, rfl, by decide +kernel, by decide +kernel⟩
abbrev d_check_words : He.DefD := ⟨("check_words", none), "check_words", "check_words", defArgs s_check_words, defBody s_check_words, defScope s_check_words, [], []⟩
abbrev s_text_by : Stmt := top 20
abbrev N_text_by : List Str := ["words", "text", "clause", "word"]
theorem sc_text_by : FnScope N_text_by ["words"] (defScope s_text_by) := ⟨rfl, rfl, rfl, by decide +kernel, rfl, by decide +kernel, by decide +kernel⟩
abbrev d_text_by : He.DefD := ⟨("text_by", none), "text_by", "text_by", defArgs s_text_by, defBody s_text_by, defScope s_text_by, [], []⟩
abbrev s_edit_by : Stmt := top 21
abbrev N_edit_by : List Str := ["words", "place"]
theorem sc_edit_by : FnScope N_edit_by ["words"] (defScope s_edit_by) := ⟨rfl, rfl, rfl, by decide +kernel, rfl, by decide +kernel, by decide +kernel⟩
abbrev d_edit_by : He.DefD := ⟨("edit_by", none), "edit_by", "edit_by", defArgs s_edit_by, defBody s_edit_by, defScope s_edit_by, [], []⟩
abbrev s_change_by : Stmt := top 22
abbrev N_change_by : List Str := ["words", "edit"]
theorem sc_change_by : FnScope N_change_by ["words"] (defScope s_change_by) := ⟨rfl, rfl, rfl, by decide +kernel, rfl, by decide +kernel, by decide +kernel⟩
abbrev d_change_by : He.DefD := ⟨("change_by", none), "change_by", "change_by", defArgs s_change_by, defBody s_change_by, defScope s_change_by, [], []⟩
abbrev s_mend_by : Stmt := top 23
abbrev N_mend_by : List Str := ["words", "edit"]
theorem sc_mend_by : FnScope N_mend_by ["words"] (defScope s_mend_by) := ⟨rfl, rfl, rfl, by decide +kernel, rfl, by decide +kernel, by decide +kernel⟩
abbrev d_mend_by : He.DefD := ⟨("mend_by", none), "mend_by", "mend_by", defArgs s_mend_by, defBody s_mend_by, defScope s_mend_by, [], []⟩
abbrev s_put_off_by : Stmt := top 24
abbrev N_put_off_by : List Str := ["words", "sitting"]
theorem sc_put_off_by : FnScope N_put_off_by ["words"] (defScope s_put_off_by) := ⟨rfl, rfl, rfl, by decide +kernel, rfl, by decide +kernel, by decide +kernel⟩
abbrev d_put_off_by : He.DefD := ⟨("put_off_by", none), "put_off_by", "put_off_by", defArgs s_put_off_by, defBody s_put_off_by, defScope s_put_off_by, [], []⟩
abbrev s_point_by : Stmt := top 25
abbrev N_point_by : List Str := ["words"]
theorem sc_point_by : FnScope N_point_by ["words"] (defScope s_point_by) := ⟨rfl, rfl, rfl, by decide +kernel, rfl, by decide +kernel, by decide +kernel⟩
abbrev d_point_by : He.DefD := ⟨("point_by", none), "point_by", "point_by", defArgs s_point_by, defBody s_point_by, defScope s_point_by, [], []⟩
abbrev s_plain_by : Stmt := top 26
abbrev N_plain_by : List Str := ["words"]
theorem sc_plain_by : FnScope N_plain_by ["words"] (defScope s_plain_by) := ⟨rfl, rfl, rfl, by decide +kernel, rfl, by decide +kernel, by decide +kernel⟩
abbrev d_plain_by : He.DefD := ⟨("plain_by", none), "plain_by", "plain_by", defArgs s_plain_by, defBody s_plain_by, defScope s_plain_by, [], []⟩
abbrev s_read_deed : Stmt := top 27
abbrev N_read_deed : List Str := ["row", "words"]
theorem sc_read_deed : FnScope N_read_deed ["row"] (defScope s_read_deed) := ⟨rfl, rfl, rfl, by decide +kernel, rfl, by decide +kernel, by decide +kernel⟩
abbrev d_read_deed : He.DefD := ⟨("read_deed", none), "read_deed", "read_deed", defArgs s_read_deed, defBody s_read_deed, defScope s_read_deed, [], []⟩
abbrev s_wcell_at : Stmt := top 29
abbrev N_wcell_at : List Str := ["_law_script", "_law_k"]
theorem sc_wcell_at : FnScope N_wcell_at ["_law_script", "_law_k"] (defScope s_wcell_at) := ⟨rfl, rfl, rfl, by decide +kernel, rfl, by decide +kernel, by decide +kernel⟩
abbrev d_wcell_at : He.DefD := ⟨("_law_cell_at", none), "_law_cell_at", "_law_cell_at", defArgs s_wcell_at, defBody s_wcell_at, defScope s_wcell_at, [], []⟩
abbrev s_wwhole : Stmt := top 30
abbrev N_wwhole : List Str := ["_law_found"]
theorem sc_wwhole : FnScope N_wwhole ["_law_found"] (defScope s_wwhole) := ⟨rfl, rfl, rfl, by decide +kernel, rfl, by decide +kernel, by decide +kernel⟩
abbrev d_wwhole : He.DefD := ⟨("_law_whole", none), "_law_whole", "_law_whole", defArgs s_wwhole, defBody s_wwhole, defScope s_wwhole, [], []⟩
abbrev s_wbad_number : Stmt := top 31
abbrev N_wbad_number : List Str := ["_law_draw", "_law_some"]
theorem sc_wbad_number : FnScope N_wbad_number ["_law_draw"] (defScope s_wbad_number) := ⟨rfl, rfl, rfl, by decide +kernel, rfl, by decide +kernel, by decide +kernel⟩
abbrev d_wbad_number : He.DefD := ⟨("_law_bad_number", none), "_law_bad_number", "_law_bad_number", defArgs s_wbad_number, defBody s_wbad_number, defScope s_wbad_number, [], []⟩
abbrev s_wnumbered : Stmt := top 32
abbrev N_wnumbered : List Str := ["_law_number", "_law_draw", "_law_some"]
theorem sc_wnumbered : FnScope N_wnumbered ["_law_number", "_law_draw"] (defScope s_wnumbered) := ⟨rfl, rfl, rfl, by decide +kernel, rfl, by decide +kernel, by decide +kernel⟩
abbrev d_wnumbered : He.DefD := ⟨("_law_numbered", none), "_law_numbered", "_law_numbered", defArgs s_wnumbered, defBody s_wnumbered, defScope s_wnumbered, [], []⟩
abbrev s_wbad : Stmt := top 33
abbrev N_wbad : List Str := ["_law_way", "_law_draw", "_law_some", "_law_long"]
theorem sc_wbad : FnScope N_wbad ["_law_way", "_law_draw"] (defScope s_wbad) := ⟨rfl, rfl, rfl, by decide +kernel, rfl, by decide +kernel, by decide +kernel⟩
abbrev d_wbad : He.DefD := ⟨("_law_bad", none), "_law_bad", "_law_bad", defArgs s_wbad, defBody s_wbad, defScope s_wbad, [], []⟩
abbrev s_wanother : Stmt := top 34
abbrev N_wanother : List Str := ["_law_caught", "_law_some"]
theorem sc_wanother : FnScope N_wanother ["_law_caught"] (defScope s_wanother) := ⟨rfl, rfl, rfl, by decide +kernel, rfl, by decide +kernel, by decide +kernel⟩
abbrev d_wanother : He.DefD := ⟨("_law_another", none), "_law_another", "_law_another", defArgs s_wanother, defBody s_wanother, defScope s_wanother, [], []⟩
abbrev s_wrefused : Stmt := top 35
abbrev N_wrefused : List Str := ["_law_row", "_law_caught", "e"]
theorem sc_wrefused : FnScope N_wrefused ["_law_row"] (defScope s_wrefused) := ⟨rfl, rfl, rfl, by decide +kernel, rfl, by decide +kernel, by decide +kernel⟩
abbrev d_wrefused : He.DefD := ⟨("_law_refused", none), "_law_refused", "_law_refused", defArgs s_wrefused, defBody s_wrefused, defScope s_wrefused, [], []⟩
abbrev s_law : Stmt := top 36
abbrev N_law : List Str := ["_law_script", "_law_good", "_law_k", "_law_cell", "_law_row", "_law_deed"]
theorem sc_law : FnScope N_law ["_law_script"] (defScope s_law) := ⟨rfl, rfl, rfl, by decide +kernel, rfl, by decide +kernel, by decide +kernel⟩
abbrev d_law : He.DefD := ⟨("law", none), "law", "law", defArgs s_law, defBody s_law, defScope s_law, [], []⟩
section
variable {P : Program} {w : World} {K : PySem.W.Frag} {mg : Str → Option Value} {base : Heap} {f : Addr} {fd : FuncData}
def G_clause_of : Fs := fun ds om Q _ => ∃ x ws, ds = [x] ∧ Lr om x (ws.map .str) ∧ (ws.map (·.length)).sum + ws.length ≤ 16777216 ∧ Q (.str (clauseC ws)) om
theorem ok_clause_of (B : Blt mg) (F : Df K d_clause_of f fd) : FnOk P w K mg base (L2.CX P w) 1 f fd ["words"] (spD K 1 G_clause_of) := by
  refine def_ok' F sc_clause_of rfl N_clause_of rfl (by decide +kernel) ?_
  rintro X rfl rfl rfl rfl rfl ⟨nN, nd, sc, calm, fn, room, un, pass, stk, frm, exs⟩ ⟨⟨_, _⟩, _⟩ om ds Q Rr hl ⟨x, ws, rfl, l, hz, q⟩
  exact "st"
  refine ret_v ?_ q
  exact v_joinS (by exact "v") l hz rfl rfl rfl
theorem pu_clause {om : Om} {x : D} {ws : List Str} (l : Lr om x (ws.map .str)) (h : (ws.map (·.length)).sum + ws.length ≤ 16777216) : Pu G_clause_of om [x] (.str (clauseC ws)) := .mk fun Q R q => ⟨x, ws, rfl, l, h, q⟩
local macro_rules | `(tactic| exact "pu") => `(tactic| ((with_reducible apply pu_clause); (focus exact "lr"); (focus exact "ar")))
/-- NoRow, row 1 -/
def rx1 (C : Addr) (R : Value → List (Str × D) → Om → Prop) (om : Om) : Prop := ∀ om', Ext om om' → R (.ref C) [("row", .int 1)] om'
def G_number_by (C : Addr) : Fs := fun ds om Q R => ∃ w, ds = [.str w] ∧ w.length ≤ 1000000 ∧ (∀ i, numW w = some i → Q (.int i) om) ∧ (numW w = none → rx1 C R om)
theorem chr_eq {c : Nat} : decide (chr1 c = "0") = decide (c = 48) := by
  have e : ("0" : Str) = chr1 48 := by decide +kernel
  rw [e]
  by_cases h : c = 48
  · subst h; simp
  · rw [decide_eq_false h, decide_eq_false fun z => h ?_]
    have := congrArg TL.tl z
    exact (List.cons.inj this).1
theorem lt_one {c n : Nat} : ([c] < [n]) ↔ c < n := by
  constructor
  · intro z
    cases z with
    | rel h2 => exact h2
    | cons h2 => cases h2
  · exact fun h => .rel h
theorem lt_chr {c n : Nat} : decide ((chr1 c).cps.toList < (chr1 n).cps.toList) = decide (c < n) := decide_eq_decide.mpr lt_one
theorem hd48 {c : Nat} {r : List Nat} : decide ((c :: r).head? = some 48) = decide (c = 48) := by
  by_cases h : c = 48
  · subst h; rfl
  · rw [decide_eq_false h, decide_eq_false]
    intro z
    exact h (Option.some.inj z)
theorem dig_chr {c : Nat} : (!decide ((chr1 c).cps.toList < ("0" : Str).cps.toList) && !decide (("9" : Str).cps.toList < (chr1 c).cps.toList)) = isDig c := by
  have e0 : ("0" : Str) = chr1 48 := by decide +kernel
  have e9 : ("9" : Str) = chr1 57 := by decide +kernel
  rw [e0, e9, lt_chr, lt_chr]
  unfold isDig
  by_cases h1 : c < 48
  · rw [decide_eq_true h1, decide_eq_false (show ¬ 48 ≤ c by omega)]; rfl
  · rw [decide_eq_false h1, decide_eq_true (show 48 ≤ c by omega)]
    by_cases h2 : 57 < c
    · rw [decide_eq_true h2, decide_eq_false (show ¬ c ≤ 57 by omega)]; rfl
    · rw [decide_eq_false h2, decide_eq_true (show c ≤ 57 by omega)]; rfl
local macro_rules | `(tactic| exact "cm") => `(tactic| with_reducible exact c_leS)
theorem ok_number_by {C : Addr} (B : Blt mg) (xN : XcF P w K mg base "NoRow" "row" C) (F : Df K d_number_by f fd) : FnOk P w K mg base (L2.CX P w) 3 f fd ["word"] (spD K 1 (G_number_by C)) := by
  refine def_ok' F sc_number_by rfl N_number_by rfl (by decide +kernel) ?_
  rintro X rfl rfl rfl rfl rfl ⟨nN, nd, sc, calm, fn, room, un, pass, stk, frm, exs⟩ ⟨⟨_, _⟩, ⟨_, _⟩, _⟩ om ds Q Rr hl ⟨s, rfl, hz, q, qx⟩
  exact "st"
  have sz : sizeLine = 16777216 := sizeLine_eq
  have hz2 : s.length ≤ sizeLine := by omega
  apply st_when (k := numHd s)
  · have hcast : (decide ((1 : Int) ≤ (s.length : Int)) && decide ((s.length : Int) ≤ 10)) = (decide (1 ≤ s.length) && decide (s.length ≤ 10)) := by
      congr 1
      · by_cases h : 1 ≤ s.length
        · rw [decide_eq_true h, decide_eq_true (by omega)]
        · rw [decide_eq_false h, decide_eq_false (by omega)]
      · by_cases h : s.length ≤ 10
        · rw [decide_eq_true h, decide_eq_true (by omega)]
        · rw [decide_eq_false h, decide_eq_false (by omega)]
    have hcast2 : decide ((1 : Int) < (s.length : Int)) = decide (1 < s.length) := by
      by_cases h : 1 < s.length
      · rw [decide_eq_true h, decide_eq_true (by omega)]
      · rw [decide_eq_false h, decide_eq_false (by omega)]
    cases hc : TL.tl s with
    | nil =>
      have hl0 : s.length = 0 := by rw [len_tl, hc]; rfl
      refine wtv_is (d := !(decide ((1 : Int) ≤ (s.length : Int)) && decide ((s.length : Int) ≤ 10)) || false) ?_ ?_
      · (with_reducible apply tv_bool)
        (with_reducible apply b_or)
        · exact "t"
        · intro z
          rw [hcast, hl0] at z
          cases z
      · unfold numHd
        rw [hcast, hl0, hc]
        rfl
    | cons c r =>
      have e0 : atI s.cps.toList (0 : Int) = some c := by
        have : s.cps.toList = c :: r := hc
        rw [this]
        exact at_0
      refine wtv_is (d := !(decide ((1 : Int) ≤ (s.length : Int)) && decide ((s.length : Int) ≤ 10)) || (decide (chr1 c = "0") && decide ((1 : Int) < (s.length : Int)))) ?_ ?_
      · exact "t"
      · unfold numHd
        rw [hcast, hcast2, hc, chr_eq, hd48]
  · intro h
    refine s_raiseF xN (by exact "v") (qx ?_ _ Ext.refl) calm (Room.mono room (by decide)) (by exact "gl")
    unfold numW numOk
    rw [h]
    rfl
  intro hh
  apply st_for (g := gName 1) (U := fun d ro => ro.set 1 (some d)) (I := fun i ro' om' => om' = om ∧ ((TL.tl s).take i).all isDig = true ∧ ∃ a, ro' = [some (.str s), a])
  exact "fo"
  case hi =>
    apply it_S
    exact "v"
  case h0 => exact ⟨rfl, rfl, _, rfl⟩
  case hP => exact fun _ _ _ _ => trivial
  case hs =>
    rintro i d ro' om' hi ⟨rfl, ha, a, rfl⟩
    obtain ⟨c, hc, rfl⟩ := map_item hi
    have hlt := (List.getElem?_eq_some_iff.mp hc).1
    exact "ro"
    apply st_when (k := !isDig c)
    · rw [← dig_chr]
      exact "t"
    · intro h
      refine s_raiseF xN (by exact "v") (qx ?_ _ Ext.refl) calm (Room.mono room (by decide)) (by exact "gl")
      unfold numW numOk
      have : (TL.tl s).all isDig = false := by
        refine List.all_eq_false.mpr ⟨c, List.mem_of_getElem? hc, ?_⟩
        simpa using h
      rw [this, Bool.and_false]
      rfl
    · intro h
      refine ws_nil ⟨rfl, ?_, _, rfl⟩
      rw [show (TL.tl s).take (i + 1) = (TL.tl s).take i ++ [c] from by rw [List.take_succ_eq_append_getElem hlt]; congr 2; exact (List.getElem?_eq_some_iff.mp hc).2, List.all_append, ha]
      simpa using h
  case hd =>
    rintro ro' om' ⟨rfl, ha, a, rfl⟩
    rw [List.length_map, List.take_length] at ha
    have ho : numOk s = true := by unfold numOk; rw [hh, ha]; rfl
    have hi := numVal_int ho
    have hl640 : s.length ≤ 640 := by
      unfold numHd at hh
      simp only [Bool.or_eq_false_iff, Bool.not_eq_false', Bool.and_eq_true, decide_eq_true_eq] at hh
      omega
    refine ret_v ?_ (q (numVal s) (by unfold numW; rw [if_pos ho]))
    (with_reducible apply v_bi)
    · exact "av"
    · exact "bi"
    · exact b_intS hi hl640
    · exact "gl"
    · exact "sd"
    · exact "sd"
def G_check_words (C : Addr) : Fs := fun ds om Q R => ∃ x ws, ds = [x] ∧ Lr om x (List.map .str ws) ∧ (∀ z ∈ ws, z.length ≤ 1000000) ∧ (checkW ws = true → Q .non om) ∧ (checkW ws = false → rx1 C R om)
theorem ok_check_words {C : Addr} (B : Blt mg) (xN : XcF P w K mg base "NoRow" "row" C) (F : Df K d_check_words f fd) : FnOk P w K mg base (L2.CX P w) 3 f fd ["words"] (spD K 1 (G_check_words C)) := by
  refine def_ok' F sc_check_words rfl N_check_words rfl (by decide +kernel) ?_
  rintro X rfl rfl rfl rfl rfl ⟨nN, nd, sc, calm, fn, room, un, pass, stk, frm, exs⟩ ⟨⟨_, _⟩, ⟨_, _⟩, _⟩ om ds Q Rr hl ⟨x, ws, rfl, l, hz, q, qx⟩
  exact "st"
  have sz : sizeLine = 16777216 := sizeLine_eq
  apply st_for (g := gName 1) (U := fun d ro => ro.set 1 (some d)) (I := fun i ro' om' => om' = om ∧ checkW (ws.take i) = true ∧ ∃ a, ro' = [some x, a])
  exact "fo"
  case hi =>
    apply it_L
    · exact "v"
    · exact l
  case h0 => exact ⟨rfl, rfl, _, rfl⟩
  case hP =>
    rintro _ _ _ ⟨rfl, _⟩
    exact l
  case hs =>
    rintro i d ro' om' hi ⟨rfl, ha, a, rfl⟩
    obtain ⟨c, hc, rfl⟩ := map_item hi
    have hlt := (List.getElem?_eq_some_iff.mp hc).1
    have hcz := hz c (List.mem_of_getElem? hc)
    have hz2 : c.length ≤ sizeLine := by omega
    exact "ro"
    apply st_when (k := !wordOk c)
    · have hcast : (decide ((1 : Int) ≤ (c.length : Int)) && decide ((c.length : Int) ≤ 20)) = (decide (1 ≤ c.length) && decide (c.length ≤ 20)) := by
        congr 1
        · by_cases h : 1 ≤ c.length
          · rw [decide_eq_true h, decide_eq_true (by omega)]
          · rw [decide_eq_false h, decide_eq_false (by omega)]
        · by_cases h : c.length ≤ 20
          · rw [decide_eq_true h, decide_eq_true (by omega)]
          · rw [decide_eq_false h, decide_eq_false (by omega)]
      refine wtv_is (d := !(decide ((1 : Int) ≤ (c.length : Int)) && decide ((c.length : Int) ≤ 20)) || decide (c = "/")) (by exact "t") ?_
      unfold wordOk
      rw [hcast, Bool.not_not]
    · intro h
      refine s_raiseF xN (by exact "v") (qx ?_ _ Ext.refl) calm (Room.mono room (by decide)) (by exact "gl")
      refine List.all_eq_false.mpr ⟨c, List.mem_of_getElem? hc, ?_⟩
      simpa using h
    · intro h
      refine ws_nil ⟨rfl, ?_, _, rfl⟩
      unfold checkW at ha ⊢
      rw [show ws.take (i + 1) = ws.take i ++ [c] from by rw [List.take_succ_eq_append_getElem hlt]; congr 2; exact (List.getElem?_eq_some_iff.mp hc).2, List.all_append, ha]
      simpa using h
  case hd =>
    rintro ro' om' ⟨rfl, ha, a, rfl⟩
    rw [List.length_map, List.take_length] at ha
    exact ws_nil (q ha)
/-- a group of words, as a tree -/
abbrev grpD (g : List Str) : D := .lst (g.map .str)
def G_text_by (C : Addr) : Fs := fun ds om Q R => ∃ x ws, ds = [x] ∧ Lr om x (List.map .str ws) ∧ smW ws ∧ (∀ t, textW ws = some t → ∀ p, om p = none → Q (.obj p) (ups om p (.lst (t.map .str)))) ∧ (textW ws = none → rx1 C R om)
theorem ok_text_by {C : Addr} (B : Blt mg) (xN : XcF P w K mg base "NoRow" "row" C) (D1 : DefOk P w K mg base "check_words" 3 1 (G_check_words C)) (D2 : DefOk P w K mg base "clause_of" 1 1 G_clause_of) (F : Df K d_text_by f fd) : FnOk P w K mg base (L2.CX P w) 4 f fd ["words"] (spD K 1 (G_text_by C)) := by
  refine def_ok' F sc_text_by rfl N_text_by rfl (by decide +kernel) ?_
  rintro X rfl rfl rfl rfl rfl ⟨nN, nd, sc, calm, fn, room, un, pass, stk, frm, exs⟩ ⟨⟨_, _⟩, ⟨_, _⟩, ⟨_, _⟩, ⟨_, _⟩, _⟩ om ds Q Rr hl ⟨x, ws, rfl, l, hz, q, qx⟩
  exact "st"
  have sz : sizeLine = 16777216 := sizeLine_eq
  have nk : X.N[2]? = some ("clause" : Str) := by rw [nN]; rfl
  have hzw := hz.2
  have hsub := grp_sub ws
  exact "new"
  rename_i p hp
  exact "new"
  rename_i q0 hq0
  have hpq0 : q0 ≠ p := fun z => by subst z; rw [ups_same] at hq0; cases hq0
  have hoq0 : om q0 = none := by rw [ups_ne hpq0] at hq0; exact hq0
  have l2 : ∀ u q1 v, om q1 = none → Lr (ups (ups om p u) q1 v) x (ws.map .str) := fun u q1 v h => l.elim .inl fun ⟨a, ea, ha⟩ => .inr ⟨a, ea, by
    have h1 : a ≠ p := fun z => by subst z; rw [hp] at ha; cases ha
    have h2 : a ≠ q1 := fun z => by subst z; rw [h] at ha; cases ha
    rw [ups_ne h2, ups_ne h1]; exact ha⟩
  have l20 := l2 (.lst []) q0 (.lst []) hoq0
  apply st_for (g := gName 3) (U := fun d ro => ro.set 3 (some d)) (I := fun i ro' om' => ∃ q1, q1 ≠ p ∧ om q1 = none ∧ om' = ups (ups om p (.lst ((grpS (ws.take i)).1.map grpD))) q1 (.lst ((grpS (ws.take i)).2.map .str)) ∧ ∃ a, ro' = [some x, some (.obj p), some (.obj q1), a])
  exact "fo"
  case hi =>
    apply it_L
    · exact "v"
    · exact l20
  case h0 => exact ⟨q0, hpq0, hoq0, rfl, _, rfl⟩
  case hP =>
    rintro i ro' om' ⟨q1, _, h, rfl, _, rfl⟩
    exact l2 _ _ _ h
  case hs =>
    rintro i d ro' om' hi ⟨q1, hne, hq1, rfl, a, rfl⟩
    obtain ⟨c, hc, rfl⟩ := map_item hi
    have hs1 := grp_sub (ws.take i)
    have hlt : (ws.take i).length ≤ ws.length := by rw [List.length_take]; omega
    have hA : ((grpS (ws.take i)).1.map grpD).length < sizeLine := by rw [List.length_map, sz]; have := hs1.2.2; omega
    have hB : ((grpS (ws.take i)).2.map D.str).length < sizeLine := by rw [List.length_map, sz]; have := hs1.2.1.length_le; omega
    have hp1 : ups (ups om p (.lst ((grpS (ws.take i)).1.map grpD))) q1 (.lst ((grpS (ws.take i)).2.map .str)) p = some (.lst ((grpS (ws.take i)).1.map grpD)) := by rw [ups_ne (fun z => hne z.symm), ups_same]
    have hd1 : dels (ups (ups om p (.lst ((grpS (ws.take i)).1.map grpD))) q1 (.lst ((grpS (ws.take i)).2.map .str))) q1 = ups om p (.lst ((grpS (ws.take i)).1.map grpD)) := dels_ups (by rw [ups_ne hne]; exact hq1)
    rw [take_snoc hc, grpS_snoc]
    unfold grpF
    generalize grpS (ws.take i) = S at *
    exact "ro"
    apply st_if (k := decide (c = "/"))
    · exact "t"
    · intro h
      rw [if_pos (of_decide_eq_true h)]
      refine ws_frz 2 (p := q1) rfl ups_same ?_
      rw [hd1]
      exact "ro"
      exact "app"
      exact "new"
      rename_i q2 hq2
      have hne2 : q2 ≠ p := fun z => by subst z; rw [ups_same] at hq2; cases hq2
      refine ws_nil (ws_nil ⟨q2, hne2, by rw [ups_ne hne2] at hq2; exact hq2, ?_, _, rfl⟩)
      rw [List.map_append]
      rfl
    · intro h
      rw [if_neg (of_decide_eq_false h)]
      exact "app"
      refine ws_nil (ws_nil ⟨q1, hne, hq1, ?_, _, rfl⟩)
      rw [List.map_append]
      rfl
  case hd =>
    rintro ro' om' ⟨q1, hne, hq1, rfl, a, rfl⟩
    rw [List.length_map, List.take_length]
    have hW : grpW ws = (grpS ws).1 ++ [(grpS ws).2] := rfl
    have hWs := grpW_sub ws
    have hA : ((grpS ws).1.map grpD).length < sizeLine := by rw [List.length_map, sz]; have := hsub.2.2; omega
    have hd1 : dels (ups (ups om p (.lst ((grpS ws).1.map grpD))) q1 (.lst ((grpS ws).2.map .str))) q1 = ups om p (.lst ((grpS ws).1.map grpD)) := dels_ups (by rw [ups_ne hne]; exact hq1)
    refine ws_frz 2 (p := q1) rfl ups_same ?_
    rw [hd1]
    exact "ro"
    exact "app"
    refine ws_frz 1 (p := p) rfl ups_same ?_
    rw [dels_ups hp]
    exact "ro"
    have hWm : (grpS ws).1.map grpD ++ [.lst ((grpS ws).2.map .str)] = (grpW ws).map grpD := by rw [hW, List.map_append]; rfl
    rw [hWm]
    have qn : ∀ P : Prop, ¬ P → ((grpW ws).head? = some [] ∧ (grpW ws).all checkW = true → P) → textW ws = none := fun P hP hh => if_neg fun z => hP (hh z)
    obtain ⟨g0, gr, hg⟩ : ∃ g0 gr, grpW ws = g0 :: gr := by
      cases h : grpW ws with
      | nil => rw [hW] at h; exact absurd h (by simp)
      | cons a b => exact ⟨a, b, rfl⟩
    have hg0 : atI ((grpW ws).map grpD) (0 : Int) = some (grpD g0) := by rw [hg]; exact at_0
    have pg0 : pok (PyData.list (g0.map .str)) := pok_of (by exact "pk")
    apply st_when (k := !decide (g0 = []))
    · refine wtv_is (d := !PyData.eqv (.list (g0.map .str)) (.list [])) ?_ ?_
      · (with_reducible apply tv_cmp)
        · exact "v"
        · exact "v"
        · (with_reducible apply c_neD)
          · exact un_64 (by assumption)
          · exact "pd"
          · exact "pd"
          · assumption
          · exact pok_of (by exact "pk")
        · exact "sd"
      · show (!PyData.eqv (.list (g0.map .str)) (.list (([] : List Str).map .str))) = _
        rw [eqv_strs]
    · intro h
      refine s_raiseF xN (by exact "v") (qx (qn (g0 = []) (by simpa using h) fun z => ?_) _ Ext.refl) calm (Room.mono room (by decide)) (by exact "gl")
      have := z.1
      rw [hg] at this
      exact Option.some.inj this
    · intro h0
      have h0 : g0 = [] := by simpa using h0
      apply st_for (g := gName 2) (U := fun d ro => ro.set 2 (some d)) (I := fun i ro' om' => om' = om ∧ ((grpW ws).take i).all checkW = true ∧ ∃ a b, ro' = [some x, some (.lst ((grpW ws).map grpD)), a, b])
      exact "fo"
      case hi =>
        apply it_L
        · exact "v"
        · exact Lr.im
      case h0 => exact ⟨rfl, rfl, _, _, rfl⟩
      case hP => exact fun _ _ _ _ => Lr.im
      case hs =>
        rintro i d ro' om' hi ⟨rfl, ha, a, b, rfl⟩
        obtain ⟨g, hc, rfl⟩ := map_item hi
        have hgm := List.mem_of_getElem? hc
        exact "ro"
        refine st_callX D1 (Room.mono room (by decide)) (ds := [grpD g]) (by exact "av") rfl ⟨_, g, rfl, Lr.im, (hz.sub (hWs.1 g hgm)).each, fun hk => ?_, fun hk => ?_⟩ (by exact "gl")
        · exact ws_nil ⟨rfl, all_take hc ha hk, _, _, rfl⟩
        · exact qx (qn (checkW g = true) (by rw [hk]; decide) fun z => List.all_eq_true.mp z.2 g hgm)
      case hd =>
        rintro ro' om' ⟨rfl, ha, a, b, rfl⟩
        rw [List.length_map, List.take_length] at ha
        have ht : textW ws = some ((grpW ws).tail.map clauseC) := if_pos ⟨by rw [hg, h0]; rfl, ha⟩
        have q := q _ ht
        rw [List.map_map] at q
        refine ret_n ?_ q
        have hcut : cut ((grpW ws).map grpD) (some 1) none = (grpW ws).tail.map grpD := by rw [cut_from (by decide), hg]; rfl
        refine n_lcM (f := grpD) (xs := (grpW ws).tail) (Pm := fun om2 => Lr om2 (.lst ((grpW ws).tail.map grpD)) ((grpW ws).tail.map grpD)) 2 nN sc nd calm (by decide +kernel) (by decide +kernel) (it_L ?_ Lr.im) (fun _ _ => Lr.im) (by rw [List.length_tail]; have := hWs.2; omega) ?_
        · refine wv_is (d := .lst (cut ((grpW ws).map grpD) (some 1) none)) ?_ (by rw [hcut])
          exact "v"
        · intro j g hgj s H C cl fp om' _
          have hgm := List.mem_of_mem_tail (List.mem_of_getElem? hgj)
          have hsz := (hz.sub (hWs.1 g hgm)).1
          have hsz2 : (g.map (·.length)).sum + g.length ≤ 16777216 := by omega
          have lg : Lr om' (grpD g) (g.map .str) := Lr.im
          show wv _ _ _ _ (.str (clauseC g))
          exact "v"
def G_edit_by (C : Addr) : Fs := fun ds om Q R => ∃ x ws, ds = [x] ∧ Lr om x (List.map .str ws) ∧ smW ws ∧ (∀ k i r, edW ws = some (k, i, r) → Q (edRes k i r) om) ∧ (edW ws = none → rx1 C R om)
theorem ok_edit_by {C : Addr} (B : Blt mg) (xN : XcF P w K mg base "NoRow" "row" C) (D1 : DefOk P w K mg base "number_by" 3 1 (G_number_by C)) (D2 : DefOk P w K mg base "check_words" 3 1 (G_check_words C)) (F : Df K d_edit_by f fd) : FnOk P w K mg base (L2.CX P w) 4 f fd ["words"] (spD K 1 (G_edit_by C)) := by
  refine def_ok' F sc_edit_by rfl N_edit_by rfl (by decide +kernel) ?_
  rintro X rfl rfl rfl rfl rfl ⟨nN, nd, sc, calm, fn, room, un, pass, stk, frm, exs⟩ ⟨⟨_, _⟩, ⟨_, _⟩, _⟩ om ds Q Rr hl ⟨x, ws, rfl, l, hz, q, qx⟩
  exact "st"
  have sz : sizeLine = 16777216 := sizeLine_eq
  by_cases hlen : ws.length < 2
  · have hn : edW ws = none := by
      match ws, hlen with
      | [], _ => rfl
      | [_], _ => rfl
    have hd : decide (((ws.map D.str).length : Int) < 2) = true := by rw [List.length_map]; exact decide_eq_true (by omega)
    apply st_yes
    · refine wtv_is (d := decide (((ws.map D.str).length : Int) < 2) || false) ?_ (by rw [hd])
      (with_reducible apply tv_bool)
      (with_reducible apply b_or)
      · exact "t"
      · intro z
        rw [hd] at z
        cases z
    · rfl
    exact s_raiseF xN (by exact "v") (qx hn _ Ext.refl) calm (Room.mono room (by decide)) (by exact "gl")
  match ws, hlen with
  | [], h => exact absurd (show 0 < 2 by decide) h
  | [_], h => exact absurd (show 1 < 2 by decide) h
  | k :: n :: r, hlen =>
  simp only [List.map_cons] at l
  have hkr := hz.each k List.mem_cons_self
  have hnr := hz.each n (List.mem_cons_of_mem _ List.mem_cons_self)
  have hzr : smW r := hz.sub ((List.sublist_cons_self _ _).trans (List.sublist_cons_self _ _))
  have hd : decide ((((D.str k) :: (D.str n) :: r.map D.str).length : Int) < 2) = false := decide_eq_false (by rw [List.length_cons, List.length_cons]; omega)
  by_cases hk : k = "put" ∨ k = "cut" ∨ k = "turn"
  · apply st_no
    · exact "t"
    · rw [hd]
      simp only [List.any_cons, List.any_nil, eqv_str]
      rcases hk with rfl | rfl | rfl <;> decide
    refine Lo.callX (by assumption) nd D1 (Room.mono room (by decide)) (ds := [.str n]) (by exact "av") rfl ⟨n, rfl, hnr, fun i hi => ?_, fun hn => ?_⟩ (by exact "gl")
    · exact "ro"
      by_cases hc : k = "cut"
      · apply st_yes
        · exact "t"
        · exact decide_eq_true hc
        by_cases hr : r = []
        · subst hr
          apply st_no
          · exact "t"
          · exact decide_eq_false (by show ¬ ((2 : Int) < ((2 : Nat) : Int)); decide)
          have q := q k i [] (by unfold edW; simp only; rw [if_pos hk, hi, Option.bind_some, if_pos hc]; rfl)
          unfold edRes at q
          rw [if_pos hc, hc] at q
          exact ret_v (by exact "v") q
        · have hrl : 0 < r.length := List.length_pos_iff.mpr hr
          apply st_yes
          · exact "t"
          · exact decide_eq_true (by rw [List.length_cons, List.length_cons, List.length_map]; omega)
          exact s_raiseF xN (by exact "v") (qx (by unfold edW; simp only; rw [if_pos hk, hi, Option.bind_some, if_pos hc, if_neg hr]) _ Ext.refl) calm (Room.mono room (by decide)) (by exact "gl")
      · apply st_no
        · exact "t"
        · exact decide_eq_false hc
        refine st_callX D2 (Room.mono room (by decide)) (ds := [.lst (r.map .str)]) (av_cons (wv_is (d := .lst (cut (.str k :: .str n :: r.map .str) (some 2) none)) ?_ (by rw [cut_two])) av_nil) rfl ⟨_, r, rfl, Lr.im, hzr.each, fun hk2 => ?_, fun hk2 => ?_⟩ (by exact "gl")
        · exact "v"
        · have q := q k i r (by unfold edW; simp only; rw [if_pos hk, hi, Option.bind_some, if_neg hc, if_pos hk2])
          unfold edRes at q
          rw [if_neg hc] at q
          refine ret_v ?_ q
          refine wv_is (d := .tup [.str k, .int i, .lst (cut (.str k :: .str n :: r.map .str) (some 2) none)]) ?_ (by rw [cut_two])
          exact "v"
        · exact qx (by unfold edW; simp only; rw [if_pos hk, hi, Option.bind_some, if_neg hc, if_neg (by rw [hk2]; decide)])
    · exact qx (by unfold edW; simp only; rw [if_pos hk, hn]; rfl)
  · apply st_yes
    · exact "t"
    · rw [hd]
      simp only [List.any_cons, List.any_nil, eqv_str, Bool.or_false, Bool.false_or, Bool.not_eq_true', Bool.or_eq_false_iff, decide_eq_false_iff_not]
      exact ⟨fun z => hk (.inl z.symm), fun z => hk (.inr (.inl z.symm)), fun z => hk (.inr (.inr z.symm))⟩
    exact s_raiseF xN (by exact "v") (qx (by unfold edW; simp only; rw [if_neg hk]) _ Ext.refl) calm (Room.mono room (by decide)) (by exact "gl")
/-- a reader of one kind of deed -/
def G_by (C : Addr) (rd : List Str → Option Dd) : Fs := fun ds om Q R => ∃ x ws, ds = [x] ∧ Lr om x (List.map .str ws) ∧ smW ws ∧ (∀ e, rd ws = some e → Q e.d om) ∧ (rd ws = none → rx1 C R om)
abbrev G_change_by (C : Addr) := G_by C changeW
theorem ok_change_by {C : Addr} (B : Blt mg) (D1 : DefOk P w K mg base "edit_by" 4 1 (G_edit_by C)) (D2 : DefOk P w K mg base "clause_of" 1 1 G_clause_of) (F : Df K d_change_by f fd) : FnOk P w K mg base (L2.CX P w) 5 f fd ["words"] (spD K 1 (G_change_by C)) := by
  refine def_ok' F sc_change_by rfl N_change_by rfl (by decide +kernel) ?_
  rintro X rfl rfl rfl rfl rfl ⟨nN, nd, sc, calm, fn, room, un, pass, stk, frm, exs⟩ ⟨⟨_, _⟩, ⟨_, _⟩, _⟩ om ds Q Rr hl ⟨x, ws, rfl, l, hz, q, qx⟩
  exact "st"
  have sz : sizeLine = 16777216 := sizeLine_eq
  refine Lo.callX (by assumption) nd D1 (Room.mono room (by decide)) (ds := [x]) (by exact "av") rfl ⟨x, ws, rfl, l, hz, fun k i r he => ?_, fun he => ?_⟩ (by exact "gl")
  · exact "ro"
    obtain ⟨hk, hsub, hcr⟩ := edW_some he
    have hzr := (hz.sub hsub).1
    have hzr2 : (r.map (·.length)).sum + r.length ≤ 16777216 := by omega
    have q := q _ (by unfold changeW; rw [he]; rfl)
    have ed : Dd.d (.mv (.change (mkEd k i (clauseC r)))) = .tup [.str "change", (mkEd k i (clauseC r)).d] := rfl
    rw [ed, mkEd_d hk] at q
    unfold edRes
    by_cases hc : k = "cut"
    · rw [if_pos hc] at q ⊢
      apply st_yes
      · exact "t"
      · exact decide_eq_true hc
      exact ret_v (by exact "v") q
    · rw [if_neg hc] at q ⊢
      apply st_no
      · exact "t"
      · exact decide_eq_false hc
      have lr : Lr om (.lst (r.map .str)) (r.map .str) := Lr.im
      refine ret_v ?_ q
      exact "v"
  · exact qx (by unfold changeW; rw [he]; rfl)
abbrev G_mend_by (C : Addr) := G_by C mendW
theorem ok_mend_by {C : Addr} (B : Blt mg) (xN : XcF P w K mg base "NoRow" "row" C) (D1 : DefOk P w K mg base "edit_by" 4 1 (G_edit_by C)) (F : Df K d_mend_by f fd) : FnOk P w K mg base (L2.CX P w) 5 f fd ["words"] (spD K 1 (G_mend_by C)) := by
  refine def_ok' F sc_mend_by rfl N_mend_by rfl (by decide +kernel) ?_
  rintro X rfl rfl rfl rfl rfl ⟨nN, nd, sc, calm, fn, room, un, pass, stk, frm, exs⟩ ⟨⟨_, _⟩, ⟨_, _⟩, _⟩ om ds Q Rr hl ⟨x, ws, rfl, l, hz, q, qx⟩
  exact "st"
  have sz : sizeLine = 16777216 := sizeLine_eq
  refine Lo.callX (by assumption) nd D1 (Room.mono room (by decide)) (ds := [x]) (by exact "av") rfl ⟨x, ws, rfl, l, hz, fun k i r he => ?_, fun he => ?_⟩ (by exact "gl")
  · exact "ro"
    obtain ⟨hk, hsub, hcr⟩ := edW_some he
    unfold edRes
    by_cases hc : k = "cut"
    · have q := q _ (by unfold mendW; rw [he]; simp only [Option.bind_some]; rw [if_pos hc])
      have ed : Dd.d (.mv (.mend (.cut i))) = .tup [.str "mend", .tup [.str "cut", .int i]] := rfl
      rw [ed] at q
      rw [if_pos hc, hc]
      apply st_yes
      · exact "t"
      · rfl
      exact ret_v (by exact "v") q
    · rw [if_neg hc]
      apply st_no
      · exact "t"
      · exact decide_eq_false hc
      have lr : Lr om (.lst (r.map .str)) (r.map .str) := Lr.im
      by_cases h1 : ∃ y, r = [y]
      · obtain ⟨y, rfl⟩ := h1
        have q := q _ (by unfold mendW; rw [he]; simp only [Option.bind_some]; rw [if_neg hc])
        have ed : Dd.d (.mv (.mend (mkEd k i y))) = .tup [.str "mend", (mkEd k i y).d] := rfl
        rw [ed, mkEd_d hk, if_neg hc] at q
        apply st_no
        · exact "t"
        · rfl
        exact ret_v (by exact "v") q
      · have hn : mendW ws = none := by
          unfold mendW
          rw [he]
          simp only [Option.bind_some]
          rw [if_neg hc]
          match r, h1 with
          | [], _ => rfl
          | [y], h1 => exact absurd ⟨y, rfl⟩ h1
          | _ :: _ :: _, _ => rfl
        have hl1 : r.length ≠ 1 := fun z => h1 (List.length_eq_one_iff.mp z)
        apply st_yes
        · exact "t"
        · rw [List.length_map]
          simp only [Bool.not_eq_true', decide_eq_false_iff_not]
          omega
        exact s_raiseF xN (by exact "v") (qx hn _ Ext.refl) calm (Room.mono room (by decide)) (by exact "gl")
  · exact qx (by unfold mendW; rw [he]; rfl)
local macro_rules | `(tactic| exact "v") => `(tactic| ((with_reducible apply v_gint); assumption; (focus exact "gl"); (focus exact "sd")))
abbrev G_put_off_by (C : Addr) := G_by C putOffW
theorem ok_put_off_by {C : Addr} (B : Blt mg) (gG : ∃ t, mg "GREATEST" = some (.int 999999999 t)) (xN : XcF P w K mg base "NoRow" "row" C) (D1 : DefOk P w K mg base "number_by" 3 1 (G_number_by C)) (F : Df K d_put_off_by f fd) : FnOk P w K mg base (L2.CX P w) 4 f fd ["words"] (spD K 1 (G_put_off_by C)) := by
  refine def_ok' F sc_put_off_by rfl N_put_off_by rfl (by decide +kernel) ?_
  rintro X rfl rfl rfl rfl rfl ⟨nN, nd, sc, calm, fn, room, un, pass, stk, frm, exs⟩ ⟨⟨_, _⟩, ⟨_, _⟩, _⟩ om ds Q Rr hl ⟨x, ws, rfl, l, hz, q, qx⟩
  exact "st"
  have sz : sizeLine = 16777216 := sizeLine_eq
  by_cases h2 : ∃ k n, ws = [k, n]
  · obtain ⟨k, n, rfl⟩ := h2
    simp only [List.map_cons, List.map_nil] at l
    have hnr := hz.each n (List.mem_cons_of_mem _ List.mem_cons_self)
    apply st_when (k := !decide (k = "off"))
    · refine wtv_is (d := _) (by exact "t") ?_
      rfl
    · intro h
      exact s_raiseF xN (by exact "v") (qx (by unfold putOffW; simp only; rw [if_neg (by simpa using h)]) _ Ext.refl) calm (Room.mono room (by decide)) (by exact "gl")
    intro h
    have hk : k = "off" := by simpa using h
    refine Lo.callX (by assumption) nd D1 (Room.mono room (by decide)) (ds := [.str n]) (by exact "av") rfl ⟨n, rfl, hnr, fun i hi => ?_, fun hn => ?_⟩ (by exact "gl")
    · change ws X _ [some x, some (.int i)] om _
      apply st_when (k := !(decide (1 ≤ i) && decide (i ≤ 999999999)))
      · exact "t"
      · intro h
        refine s_raiseF xN (by exact "v") (qx ?_ _ Ext.refl) calm (Room.mono room (by decide)) (by exact "gl")
        unfold putOffW
        simp only
        rw [if_pos hk, hi, Option.bind_some, if_neg]
        rintro ⟨h3, h4⟩
        rw [decide_eq_true h3, decide_eq_true h4] at h
        cases h
      · intro h
        have q := q _ (by
          unfold putOffW
          simp only
          rw [if_pos hk, hi, Option.bind_some, if_pos]
          simpa using h)
        refine ret_v ?_ q
        show wv _ _ _ _ (.tup [.str "put off", .int i])
        exact "v"
    · exact qx (by unfold putOffW; simp only; rw [if_pos hk, hn]; rfl)
  · have hl2 : ws.length ≠ 2 := fun z => by
      match ws, z, h2 with
      | [k, n], _, h2 => exact h2 ⟨k, n, rfl⟩
    have hn : putOffW ws = none := by
      match ws, h2 with
      | [], _ => rfl
      | [_], _ => rfl
      | [k, n], h2 => exact absurd ⟨k, n, rfl⟩ h2
      | _ :: _ :: _ :: _, _ => rfl
    have hd : (!decide (((ws.map D.str).length : Int) = 2)) = true := by
      rw [List.length_map]
      simp only [Bool.not_eq_true', decide_eq_false_iff_not]
      omega
    apply st_yes
    · refine wtv_is (d := !decide (((ws.map D.str).length : Int) = 2) || false) ?_ (by rw [hd])
      (with_reducible apply tv_bool)
      (with_reducible apply b_or)
      · exact "t"
      · intro z
        rw [hd] at z
        cases z
    · rfl
    exact s_raiseF xN (by exact "v") (qx hn _ Ext.refl) calm (Room.mono room (by decide)) (by exact "gl")
def pointW (ws : List Str) : Option Dd := if checkW ws = true then some (.mv (.point (clauseC ws))) else none
abbrev G_point_by (C : Addr) := G_by C pointW
theorem ok_point_by {C : Addr} (B : Blt mg) (D1 : DefOk P w K mg base "check_words" 3 1 (G_check_words C)) (D2 : DefOk P w K mg base "clause_of" 1 1 G_clause_of) (F : Df K d_point_by f fd) : FnOk P w K mg base (L2.CX P w) 4 f fd ["words"] (spD K 1 (G_point_by C)) := by
  refine def_ok' F sc_point_by rfl N_point_by rfl (by decide +kernel) ?_
  rintro X rfl rfl rfl rfl rfl ⟨nN, nd, sc, calm, fn, room, un, pass, stk, frm, exs⟩ ⟨⟨_, _⟩, _⟩ om ds Q Rr hl ⟨x, ws, rfl, l, hz, q, qx⟩
  exact "st"
  have sz : sizeLine = 16777216 := sizeLine_eq
  have hzr := hz.1
  have hzr2 : (ws.map (·.length)).sum + ws.length ≤ 16777216 := by omega
  refine st_callX D1 (Room.mono room (by decide)) (ds := [x]) (by exact "av") rfl ⟨_, ws, rfl, l, hz.each, fun hk => ?_, fun hk => ?_⟩ (by exact "gl")
  · have q := q _ (if_pos hk)
    refine ret_v ?_ q
    show wv _ _ _ _ (.tup [.str "point", .str (clauseC ws)])
    exact "v"
  · exact qx (if_neg (by rw [hk]; decide))
def G_plain_by (C : Addr) : Fs := fun ds om Q R => ∃ x ws, ds = [x] ∧ Lr om x (List.map .str ws) ∧ ws ≠ [] ∧ smW ws ∧ (∀ e, plainW ws = some e → Q e.d om) ∧ (plainW ws = none → rx1 C R om)
theorem ok_plain_by {C : Addr} (B : Blt mg) (xN : XcF P w K mg base "NoRow" "row" C) (D1 : DefOk P w K mg base "number_by" 3 1 (G_number_by C)) (F : Df K d_plain_by f fd) : FnOk P w K mg base (L2.CX P w) 4 f fd ["words"] (spD K 1 (G_plain_by C)) := by
  refine def_ok' F sc_plain_by rfl N_plain_by rfl (by decide +kernel) ?_
  rintro X rfl rfl rfl rfl rfl ⟨nN, nd, sc, calm, fn, room, un, pass, stk, frm, exs⟩ ⟨⟨_, _⟩, _⟩ om ds Q Rr hl ⟨x, ws, rfl, l, hne, hz, q, qx⟩
  exact "st"
  have sz : sizeLine = 16777216 := sizeLine_eq
  match ws, hne with
  | k :: r, _ =>
  simp only [List.map_cons] at l
  have hzk := hz.each k List.mem_cons_self
  have hln : ∀ n : Nat, decide (((D.str k :: r.map D.str).length : Int) = (n : Int)) = decide (r.length + 1 = n) := fun n => by
    rw [List.length_cons, List.length_map]
    by_cases h : r.length + 1 = n
    · rw [decide_eq_true h, decide_eq_true (by omega)]
    · rw [decide_eq_false h, decide_eq_false (by omega)]
  have hl1 := hln 1
  have hl2 := hln 2
  have hl3 := hln 3
  apply st_when (k := (decide (k = "close") || (decide (k = "lay") || (decide (k = "rest") || decide (k = "drop")))) && decide (r.length + 1 = 1))
  · refine wtv_is (d := _) (by exact "t") ?_
    simp only [List.any_cons, List.any_nil, eqv_str, Bool.or_false, eq_comm (b := k)]
    rw [← hl1]
    rfl
  · intro h
    simp only [Bool.and_eq_true, Bool.or_eq_true, decide_eq_true_eq] at h
    obtain ⟨hk, hr⟩ := h
    have hr : r = [] := List.length_eq_zero_iff.mp (by omega)
    subst hr
    have hd : ∃ e : Dd, plainW [k] = some e ∧ e.d = .tup [.str k] := by
      rcases hk with rfl | rfl | rfl | rfl
      · exact ⟨_, rfl, rfl⟩
      · exact ⟨_, rfl, rfl⟩
      · exact ⟨_, rfl, rfl⟩
      · exact ⟨_, rfl, rfl⟩
    obtain ⟨e, he, hed⟩ := hd
    have q := q e he
    rw [hed] at q
    exact ret_v (by exact "v") q
  intro h1
  apply st_when (k := decide (k = "take") && decide (r.length + 1 = 2))
  · refine wtv_is (d := _) (by exact "t") ?_
    rw [← hl2]
    rfl
  · intro h
    simp only [Bool.and_eq_true, decide_eq_true_eq] at h
    obtain ⟨hk, hr⟩ := h
    obtain ⟨n, rfl⟩ := List.length_eq_one_iff.mp (show r.length = 1 by omega)
    have hnr := hz.each n (List.mem_cons_of_mem _ List.mem_cons_self)
    have hpw : plainW [k, n] = (numW n).map .take := if_pos hk
    refine ret_e (e_tup (a_cons (v_str _ _ (a_cons (e_call D1 (Room.mono room (by decide)) ((av_cons (d := .str n) ?_ av_nil) _ _ ⟨rfl, n, rfl, hnr, fun i hi => ?_, fun hn => ?_⟩) (by exact "gl"))))))
    · exact "v"
    · refine a_nil ⟨by rw [sz]; show 2 ≤ _; decide, ?_⟩
      exact q (.take i) (by rw [hpw, hi]; rfl)
    · exact qx (by rw [hpw, hn]; rfl)
  intro h2
  apply st_when (k := decide (k = "vote") && decide (r.length + 1 = 3))
  · refine wtv_is (d := _) (by exact "t") ?_
    rw [← hl3]
    rfl
  · intro h
    simp only [Bool.and_eq_true, decide_eq_true_eq] at h
    obtain ⟨hk, hr⟩ := h
    obtain ⟨a, n, rfl⟩ : ∃ a n, r = [a, n] := by
      match r, hr with
      | [a, n], _ => exact ⟨a, n, rfl⟩
    have har := hz.each a (List.mem_cons_of_mem _ List.mem_cons_self)
    have hnr := hz.each n (List.mem_cons_of_mem _ (List.mem_cons_of_mem _ List.mem_cons_self))
    have hpw : plainW [k, a, n] = (numW a).bind fun i => (numW n).map fun j => .vote i j := if_pos hk
    refine ret_e (e_tup (a_cons (v_str _ _ (a_cons (e_call D1 (Room.mono room (by decide)) ((av_cons (d := .str a) ?_ av_nil) _ _ ⟨rfl, a, rfl, har, fun i hi => ?_, fun hn => ?_⟩) (by exact "gl"))))))
    · exact "v"
    · refine a_cons (e_call D1 (Room.mono room (by decide)) ((av_cons (d := .str n) ?_ av_nil) _ _ ⟨rfl, n, rfl, hnr, fun j hj => ?_, fun hn => ?_⟩) (by exact "gl"))
      · exact "v"
      · refine a_nil ⟨by rw [sz]; show 3 ≤ _; decide, ?_⟩
        exact q (.vote i j) (by rw [hpw, hi, hj]; rfl)
      · exact qx (by rw [hpw, hi, hn]; rfl)
    · exact qx (by rw [hpw, hn]; rfl)
  intro h3
  refine s_raiseF xN (by exact "v") (qx ?_ _ Ext.refl) calm (Room.mono room (by decide)) (by exact "gl")
  match r with
  | [] =>
    have h1 : ¬ (k = "close" ∨ k = "lay" ∨ k = "rest" ∨ k = "drop") := by simpa using h1
    show (if k = "close" then _ else if k = "lay" then _ else if k = "rest" then _ else if k = "drop" then _ else none) = _
    rw [if_neg fun z => h1 (.inl z), if_neg fun z => h1 (.inr (.inl z)), if_neg fun z => h1 (.inr (.inr (.inl z))), if_neg fun z => h1 (.inr (.inr (.inr z)))]
  | [n] => exact if_neg (by simpa using h2)
  | [a, n] => exact if_neg (by simpa using h3)
  | _ :: _ :: _ :: _ => rfl
/-- what a read deed is told as: a matter's text is a new list -/
def rdQ (e : Dd) (Q : DK) (om : Om) : Prop := match e with
  | .mv (.matter t) => ∀ p, om p = none → Q (.tup [.str "matter", .obj p]) (ups om p (.lst (t.map .str)))
  | e => Q e.d om
def smR (s : Str) : Prop := s.length ≤ 900000 ∧ (Txt.split s sp).length ≤ 99000
theorem rdQ_of {e : Dd} {Q : DK} {om : Om} (h : ∀ t, e ≠ .mv (.matter t)) (r : rdQ e Q om) : Q e.d om := by
  cases e with
  | mv t => cases t <;> first | exact absurd rfl (h _) | exact r
  | vote a n => exact r
  | drop => exact r
  | take k => exact r
def G_read_deed (C : Addr) : Fs := fun ds om Q R => ∃ s, ds = [.str s] ∧ smR s ∧ (∀ e, readR s = some e → rdQ e Q om) ∧ (readR s = none → rx1 C R om)
theorem ok_read_deed {C : Addr} (B : Blt mg) (D1 : DefOk P w K mg base "text_by" 4 1 (G_text_by C)) (D2 : DefOk P w K mg base "change_by" 5 1 (G_change_by C)) (D3 : DefOk P w K mg base "mend_by" 5 1 (G_mend_by C)) (D4 : DefOk P w K mg base "put_off_by" 4 1 (G_put_off_by C)) (D5 : DefOk P w K mg base "point_by" 4 1 (G_point_by C)) (D6 : DefOk P w K mg base "plain_by" 4 1 (G_plain_by C)) (F : Df K d_read_deed f fd) : FnOk P w K mg base (L2.CX P w) 6 f fd ["row"] (spD K 1 (G_read_deed C)) := by
  refine def_ok' F sc_read_deed rfl N_read_deed rfl (by decide +kernel) ?_
  rintro X rfl rfl rfl rfl rfl ⟨nN, nd, sc, calm, fn, room, un, pass, stk, frm, exs⟩ ⟨⟨_, _⟩, ⟨_, _⟩, _⟩ om ds Q Rr hl ⟨s, rfl, hs, q, qx⟩
  exact "st"
  have sz : sizeLine = 16777216 := sizeLine_eq
  have hsl : s.length + 2 ≤ sizeLine := by have := hs.1; omega
  exact "new"
  rename_i p hp
  refine ws_frz 1 (p := p) rfl ups_same ?_
  rw [dels_ups hp]
  exact "ro"
  have hsz := split_size s
  have hzW : smW (Txt.split s sp) := ⟨by have := hs.1; omega, hs.2⟩
  have hne : Txt.split s sp ≠ [] := fun z => by rw [z] at hsz; simp at hsz
  unfold readR at q qx
  generalize Txt.split s sp = ws at *
  match ws, hne with
  | k :: r, hne =>
  simp only [List.map_cons]
  have hzr : smW r := hzW.sub (List.sublist_cons_self _ _)
  have hcut : cut (D.str k :: r.map D.str) (some 1) none = r.map D.str := cut_from (by decide)
  have arg : ∀ {ro : Ro} {e : Expr}, wv X ro om e (.lst (cut (D.str k :: r.map D.str) (some 1) none)) → wv X ro om e (.lst (r.map .str)) := fun h => by rw [hcut] at h; exact h
  unfold readW at q qx
  simp only at q qx
  apply st_when (k := decide (k = "matter"))
  · exact "t"
  · intro h
    have h := of_decide_eq_true h
    rw [if_pos h] at q qx
    refine ret_e (e_tup (a_cons (v_str _ _ (a_cons (e_call D1 (Room.mono room (by decide)) ((av_cons (arg (by exact "v")) av_nil) _ _ ⟨rfl, _, r, rfl, Lr.im, hzr, fun t ht => ?_, fun hn => ?_⟩) (by exact "gl"))))))
    · intro p2 hp2
      refine a_nil ⟨by rw [sz]; show 2 ≤ _; decide, ?_⟩
      have q := q (.mv (.matter t)) (by rw [ht]; rfl)
      exact q p2 hp2
    · exact qx (by rw [hn]; rfl)
  intro h1
  have h1 := of_decide_eq_false h1
  rw [if_neg h1] at q qx
  apply st_when (k := decide (k = "change"))
  · exact "t"
  · intro h
    have h := of_decide_eq_true h
    rw [if_pos h] at q qx
    refine ret_e (e_call D2 (Room.mono room (by decide)) ((av_cons (arg (by exact "v")) av_nil) _ _ ⟨rfl, _, r, rfl, Lr.im, hzr, fun e he => rdQ_of (fun t z => ?_) (q e he), fun hn => qx hn⟩) (by exact "gl"))
    subst z
    unfold changeW at he
    cases h : edW r <;> rw [h] at he <;> cases he
  intro h2
  have h2 := of_decide_eq_false h2
  rw [if_neg h2] at q qx
  apply st_when (k := decide (k = "mend"))
  · exact "t"
  · intro h
    have h := of_decide_eq_true h
    rw [if_pos h] at q qx
    refine ret_e (e_call D3 (Room.mono room (by decide)) ((av_cons (arg (by exact "v")) av_nil) _ _ ⟨rfl, _, r, rfl, Lr.im, hzr, fun e he => rdQ_of (fun t z => ?_) (q e he), fun hn => qx hn⟩) (by exact "gl"))
    subst z
    unfold mendW at he
    cases h : edW r with
    | none => rw [h] at he; cases he
    | some z =>
      rw [h] at he
      simp only [Option.bind_some] at he
      split at he
      · cases he
      · split at he <;> cases he
  intro h3
  have h3 := of_decide_eq_false h3
  rw [if_neg h3] at q qx
  apply st_when (k := decide (k = "put"))
  · exact "t"
  · intro h
    have h := of_decide_eq_true h
    rw [if_pos h] at q qx
    refine ret_e (e_call D4 (Room.mono room (by decide)) ((av_cons (arg (by exact "v")) av_nil) _ _ ⟨rfl, _, r, rfl, Lr.im, hzr, fun e he => rdQ_of (fun t z => ?_) (q e he), fun hn => qx hn⟩) (by exact "gl"))
    subst z
    exact putOffW_no he
  intro h4
  have h4 := of_decide_eq_false h4
  rw [if_neg h4] at q qx
  apply st_when (k := decide (k = "point"))
  · exact "t"
  · intro h
    have h := of_decide_eq_true h
    rw [if_pos h] at q qx
    refine ret_e (e_call D5 (Room.mono room (by decide)) ((av_cons (arg (by exact "v")) av_nil) _ _ ⟨rfl, _, r, rfl, Lr.im, hzr, fun e he => rdQ_of (fun t z => ?_) (q e he), fun hn => qx hn⟩) (by exact "gl"))
    subst z
    unfold pointW at he
    split at he <;> cases he
  intro h5
  have h5 := of_decide_eq_false h5
  rw [if_neg h5] at q qx
  refine ret_e (e_call D6 (Room.mono room (by decide)) ((av_cons (d := .lst (D.str k :: r.map D.str)) ?_ av_nil) _ _ ⟨rfl, _, k :: r, rfl, Lr.im, hne, hzW, fun e he => rdQ_of (fun t z => ?_) (q e he), fun hn => qx hn⟩) (by exact "gl"))
  · exact "v"
  · subst z
    exact plainW_no he
--SEG
/-- a row that is none -/
def badOk (s : Str) : Bool := decide (readR s = none) && decide (s.length ≤ 1000) && decide ((Txt.split s sp).length ≤ 1000)
theorem badOk.out {s : Str} (h : badOk s = true) : smR s ∧ readR s = none := by
  unfold badOk at h
  simp only [Bool.and_eq_true, decide_eq_true_eq] at h
  exact ⟨⟨by omega, by omega⟩, h.1.1⟩
theorem at_mod {L : List Str} {n d : Int} (hL : (L.length : Int) = n) (hn : 0 < n) : ∃ s ∈ L, atI (L.map D.str) (d % n) = some (.str s) := by
  have h1 := Int.emod_nonneg d (show n ≠ 0 by omega)
  have h2 := Int.emod_lt_of_pos d hn
  generalize d % n = z at *
  obtain ⟨m, rfl⟩ : ∃ m : Nat, z = (m : Int) := ⟨z.toNat, by omega⟩
  have hi : m < L.length := by omega
  exact ⟨L[m], List.getElem_mem hi, at_map (List.getElem?_eq_getElem hi)⟩
def bads : List Str := ["00", "01", "-1", "+1", "12345678901", "1_0", "1.0", "x", "0x1", "1e3", "007", "--"]
def numbered (b : Str) : List Str := [("change cut " : Str) ++ b, ("change put " : Str) ++ b ++ (" a b" : Str), ("mend turn " : Str) ++ b ++ (" a" : Str), ("take " : Str) ++ b, ("vote " : Str) ++ b ++ (" 0" : Str), ("vote 0 " : Str) ++ b, ("put off " : Str) ++ b, ("mend cut " : Str) ++ b]
theorem bad1 : bads.all (fun b => (numbered b).all badOk) = true := by decide +kernel
def bad0L : List Str := ["", "matters / a", "Matter / a", "motion", "amend cut 0", "VOTE 1 0", "laid", "closed", "points a"]
theorem bad0 : bad0L.all badOk = true := by decide +kernel
def bad3L : List Str := ["change put 0 /", "change turn 1 a / b", "mend put 0 /", "point /", "point a /", "change cut 0 /"]
theorem bad3 : bad3L.all badOk = true := by decide +kernel
def bad4L : List Str := ["matter a", "matter a / b", "matter -", "matter //", "matter a /"]
theorem bad4 : bad4L.all badOk = true := by decide +kernel
def bad5L : List Str := ["mend put 0", "mend turn 0", "mend put 0 a b", "mend turn 0 a b c", "mend", "mend put"]
theorem bad5 : bad5L.all badOk = true := by decide +kernel
def bad6L : List Str := ["change cut 0 a", "mend cut 1 a", "change cut", "change", "change put", "change lay 0", "mend off 3"]
theorem bad6 : bad6L.all badOk = true := by decide +kernel
def bad7L : List Str := ["put off 0", "put off 1000000000", "put off 9999999999", "put off", "put 3", "put off 3 4"]
theorem bad7 : bad7L.all badOk = true := by decide +kernel
def bad8L : List Str := ["close 1", "lay a", "rest 2", "drop 1", "take", "take 1 2", "vote 1", "vote 1 2 3", "vote", "off 3"]
theorem bad8 : bad8L.all badOk = true := by decide +kernel
def bad9L : List Str := [" close", "close ", "matter  / a", "matter / a  b", "vote 1  0", "point a ", "change put 0 a ", "put  off 3"]
theorem bad9 : bad9L.all badOk = true := by decide +kernel
def a21 : Str := "aaaaaaaaaaaaaaaaaaaaa"
def bad2L : List Str := [("matter / " : Str) ++ a21, ("change put 0 a " : Str) ++ a21, ("mend put 0 " : Str) ++ a21, ("point b " : Str) ++ a21 ++ (" c" : Str)]
theorem bad2 : bad2L.all badOk = true := by decide +kernel
def G_wbad_number : Fs := fun ds om Q _ => ∃ d, ds = [.int d] ∧ ∀ s ∈ bads, Q (.str s) om
theorem ok_wbad_number (B : Blt mg) (F : Df K d_wbad_number f fd) : FnOk P w K mg base (L2.CX P w) 1 f fd ["_law_draw"] (spD K 1 G_wbad_number) := by
  refine def_ok' F sc_wbad_number rfl N_wbad_number rfl (by decide +kernel) ?_
  rintro X rfl rfl rfl rfl rfl ⟨nN, nd, sc, calm, fn, room, un, pass, stk, frm, exs⟩ ⟨⟨_, _⟩, ⟨_, _⟩, _⟩ om ds Q Rr hl ⟨d, rfl, q⟩
  exact "st"
  have sz : sizeLine = 16777216 := sizeLine_eq
  exact "asg"
  obtain ⟨s, hs, e0⟩ := at_mod (L := bads) (n := 12) (d := d) rfl (by decide)
  change ws X _ [some (.int d), some (.lst (bads.map .str))] om _
  exact ret_v (d := .str s) (by exact "v") (q s hs)
def G_wnumbered : Fs := fun ds om Q _ => ∃ b d, ds = [.str b, .int d] ∧ b.length ≤ 20 ∧ ∀ s ∈ numbered b, Q (.str s) om
theorem ok_wnumbered (B : Blt mg) (F : Df K d_wnumbered f fd) : FnOk P w K mg base (L2.CX P w) 1 f fd ["_law_number", "_law_draw"] (spD K 2 G_wnumbered) := by
  refine def_ok' F sc_wnumbered rfl N_wnumbered rfl (by decide +kernel) ?_
  rintro X rfl rfl rfl rfl rfl ⟨nN, nd, sc, calm, fn, room, un, pass, stk, frm, exs⟩ ⟨⟨_, _⟩, ⟨_, _⟩, ⟨_, _⟩, _⟩ om ds Q Rr hl ⟨b, d, rfl, hb, q⟩
  exact "st"
  have sz : sizeLine = 16777216 := sizeLine_eq
  have la0 : ("change cut " : Str).length = 11 := by decide +kernel
  have ha0 : ("change cut " : Str).length + b.length ≤ sizeLine := by rw [la0, sz]; omega
  have la1 : ("change put " : Str).length = 11 := by decide +kernel
  have ha1 : ("change put " : Str).length + b.length ≤ sizeLine := by rw [la1, sz]; omega
  have lb1 : (" a b" : Str).length = 4 := by decide +kernel
  have hb1 : (("change put " : Str) ++ b).length + (" a b" : Str).length ≤ sizeLine := by rw [len_app, la1, lb1, sz]; omega
  have la2 : ("mend turn " : Str).length = 10 := by decide +kernel
  have ha2 : ("mend turn " : Str).length + b.length ≤ sizeLine := by rw [la2, sz]; omega
  have lb2 : (" a" : Str).length = 2 := by decide +kernel
  have hb2 : (("mend turn " : Str) ++ b).length + (" a" : Str).length ≤ sizeLine := by rw [len_app, la2, lb2, sz]; omega
  have la3 : ("take " : Str).length = 5 := by decide +kernel
  have ha3 : ("take " : Str).length + b.length ≤ sizeLine := by rw [la3, sz]; omega
  have la4 : ("vote " : Str).length = 5 := by decide +kernel
  have ha4 : ("vote " : Str).length + b.length ≤ sizeLine := by rw [la4, sz]; omega
  have lb4 : (" 0" : Str).length = 2 := by decide +kernel
  have hb4 : (("vote " : Str) ++ b).length + (" 0" : Str).length ≤ sizeLine := by rw [len_app, la4, lb4, sz]; omega
  have la5 : ("vote 0 " : Str).length = 7 := by decide +kernel
  have ha5 : ("vote 0 " : Str).length + b.length ≤ sizeLine := by rw [la5, sz]; omega
  have la6 : ("put off " : Str).length = 8 := by decide +kernel
  have ha6 : ("put off " : Str).length + b.length ≤ sizeLine := by rw [la6, sz]; omega
  have la7 : ("mend cut " : Str).length = 9 := by decide +kernel
  have ha7 : ("mend cut " : Str).length + b.length ≤ sizeLine := by rw [la7, sz]; omega
  exact "asg"
  exact "asg"
  obtain ⟨s, hs, e0⟩ := at_mod (L := numbered b) (n := 8) (d := d) rfl (by decide)
  change ws X _ [some (.str b), some (.int d), some (.lst ((numbered b).map .str))] om _
  exact ret_v (d := .str s) (by exact "v") (q s hs)
local macro_rules | `(tactic| exact "op") => `(tactic| ((with_reducible apply o_mulS); assumption))
theorem a21_eq : Txt.mul "a" 21 = a21 := by decide +kernel
theorem a21_ok : MulOk ("a" : Str) 21 := by unfold MulOk; decide +kernel
theorem a21_len : a21.length = 21 := by decide +kernel
def G_wbad : Fs := fun ds om Q _ => ∃ c d, ds = [.int c, .int d] ∧ ∀ s, badOk s = true → Q (.str s) om
theorem ok_wbad (B : Blt mg) (D1 : DefOk P w K mg base "_law_bad_number" 1 1 G_wbad_number) (D2 : DefOk P w K mg base "_law_numbered" 1 2 G_wnumbered) (F : Df K d_wbad f fd) : FnOk P w K mg base (L2.CX P w) 2 f fd ["_law_way", "_law_draw"] (spD K 2 G_wbad) := by
  refine def_ok' F sc_wbad rfl N_wbad rfl (by decide +kernel) ?_
  rintro X rfl rfl rfl rfl rfl ⟨nN, nd, sc, calm, fn, room, un, pass, stk, frm, exs⟩ ⟨⟨_, _⟩, ⟨_, _⟩, ⟨_, _⟩, ⟨_, _⟩, _⟩ om ds Q Rr hl ⟨c, d, rfl, q⟩
  exact "st"
  have sz : sizeLine = 16777216 := sizeLine_eq
  apply st_when (k := decide (c = 0))
  · exact "t"
  · intro _
    exact "asg"
    obtain ⟨s, hs, e0⟩ := at_mod (L := bad0L) (n := 9) (d := d) rfl (by decide)
    have hq := q s (List.all_eq_true.mp bad0 s hs)
    simp only [bad0L, List.map_cons, List.map_nil] at e0
    exact ret_v (d := .str s) (by exact "v") hq
  intro h0
  apply st_when (k := decide (c = 1))
  · exact "t"
  · intro _
    refine ret_e (e_call D2 (Room.mono room (by decide)) (a_cons (e_call D1 (Room.mono room (by decide)) ((show wav X _ om _ [.int d] by exact "av") _ _ ⟨rfl, d, rfl, fun b hb => ?_⟩) (by exact "gl"))) (by exact "gl"))
    have hbl : b.length ≤ 20 := by
      have : ∀ b ∈ bads, b.length ≤ 20 := by decide +kernel
      exact this b hb
    exact (show wav X _ om _ [.int (d / 12)] by exact "av") _ _ ⟨rfl, b, _, rfl, hbl, fun s hs => q s (List.all_eq_true.mp (List.all_eq_true.mp bad1 b hb) s hs)⟩
  intro h1
  apply st_when (k := decide (c = 2))
  · exact "t"
  · intro _
    have a21k := a21_ok
    exact "asg"
    rw [a21_eq]
    have l21 := a21_len
    have la0 : ("matter / " : Str).length = 9 := by decide +kernel
    have ha0 : ("matter / " : Str).length + a21.length ≤ sizeLine := by rw [la0, l21, sz]; omega
    have la1 : ("change put 0 a " : Str).length = 15 := by decide +kernel
    have ha1 : ("change put 0 a " : Str).length + a21.length ≤ sizeLine := by rw [la1, l21, sz]; omega
    have la2 : ("mend put 0 " : Str).length = 11 := by decide +kernel
    have ha2 : ("mend put 0 " : Str).length + a21.length ≤ sizeLine := by rw [la2, l21, sz]; omega
    have la3 : ("point b " : Str).length = 8 := by decide +kernel
    have ha3 : ("point b " : Str).length + a21.length ≤ sizeLine := by rw [la3, l21, sz]; omega
    have lb3 : (" c" : Str).length = 2 := by decide +kernel
    have hb3 : (("point b " : Str) ++ a21).length + (" c" : Str).length ≤ sizeLine := by rw [len_app, la3, lb3, l21, sz]; omega
    exact "asg"
    obtain ⟨s, hs, e0⟩ := at_mod (L := bad2L) (n := 4) (d := d) rfl (by decide)
    have hq := q s (List.all_eq_true.mp bad2 s hs)
    simp only [bad2L, List.map_cons, List.map_nil] at e0
    exact ret_v (d := .str s) (by exact "v") hq
  intro h2
  apply st_when (k := decide (c = 3))
  · exact "t"
  · intro _
    exact "asg"
    obtain ⟨s, hs, e0⟩ := at_mod (L := bad3L) (n := 6) (d := d) rfl (by decide)
    have hq := q s (List.all_eq_true.mp bad3 s hs)
    simp only [bad3L, List.map_cons, List.map_nil] at e0
    exact ret_v (d := .str s) (by exact "v") hq
  intro h3
  apply st_when (k := decide (c = 4))
  · exact "t"
  · intro _
    obtain ⟨s, hs, e0⟩ := at_mod (L := bad4L) (n := 5) (d := d) rfl (by decide)
    have hq := q s (List.all_eq_true.mp bad4 s hs)
    simp only [bad4L, List.map_cons, List.map_nil] at e0
    exact ret_v (d := .str s) (by exact "v") hq
  intro h4
  apply st_when (k := decide (c = 5))
  · exact "t"
  · intro _
    obtain ⟨s, hs, e0⟩ := at_mod (L := bad5L) (n := 6) (d := d) rfl (by decide)
    have hq := q s (List.all_eq_true.mp bad5 s hs)
    simp only [bad5L, List.map_cons, List.map_nil] at e0
    exact ret_v (d := .str s) (by exact "v") hq
  intro h5
  apply st_when (k := decide (c = 6))
  · exact "t"
  · intro _
    exact "asg"
    obtain ⟨s, hs, e0⟩ := at_mod (L := bad6L) (n := 7) (d := d) rfl (by decide)
    have hq := q s (List.all_eq_true.mp bad6 s hs)
    simp only [bad6L, List.map_cons, List.map_nil] at e0
    exact ret_v (d := .str s) (by exact "v") hq
  intro h6
  apply st_when (k := decide (c = 7))
  · exact "t"
  · intro _
    obtain ⟨s, hs, e0⟩ := at_mod (L := bad7L) (n := 6) (d := d) rfl (by decide)
    have hq := q s (List.all_eq_true.mp bad7 s hs)
    simp only [bad7L, List.map_cons, List.map_nil] at e0
    exact ret_v (d := .str s) (by exact "v") hq
  intro h7
  apply st_when (k := decide (c = 8))
  · exact "t"
  · intro _
    exact "asg"
    obtain ⟨s, hs, e0⟩ := at_mod (L := bad8L) (n := 10) (d := d) rfl (by decide)
    have hq := q s (List.all_eq_true.mp bad8 s hs)
    simp only [bad8L, List.map_cons, List.map_nil] at e0
    exact ret_v (d := .str s) (by exact "v") hq
  intro h8
  exact "asg"
  obtain ⟨s, hs, e0⟩ := at_mod (L := bad9L) (n := 8) (d := d) rfl (by decide)
  have hq := q s (List.all_eq_true.mp bad9 s hs)
  simp only [bad9L, List.map_cons, List.map_nil] at e0
  have e1 : atI ([D.str " close", .str "close ", .str "matter  / a", .str "matter / a  b", .str "vote 1  0", .str "point a ", .str "change put 0 a "] ++ [D.str "put  off 3"]) (d % 8) = some (.str s) := e0
  refine ret_v (d := .str s) ?_ hq
  exact "v"
--SEG
def cellZ (ns : List Int) (k : Int) : Int := if k < ns.length then ns.getD k.toNat 0 else 0
def G_wcell_at : Fs := fun ds om Q _ => ∃ ns k, ds = [.scr ns, .int k] ∧ 0 ≤ k ∧ Q (.int (cellZ ns k)) om
theorem ok_wcell_at (B : Blt mg) (F : Df K d_wcell_at f fd) : FnOk P w K mg base (L2.CX P w) 1 f fd ["_law_script", "_law_k"] (spD K 2 G_wcell_at) := by
  refine def_ok' F sc_wcell_at rfl N_wcell_at rfl (by decide +kernel) ?_
  rintro X rfl rfl rfl rfl rfl ⟨nN, nd, sc, calm, fn, room, un, pass, stk, frm, exs⟩ ⟨⟨_, _⟩, ⟨_, _⟩, _⟩ om ds Q Rr hl ⟨ns, k, rfl, hk, q⟩
  exact "st"
  apply st_when
  · exact "t"
  · intro h
    have h := of_decide_eq_true h
    rw [cellZ, if_pos h] at q
    refine ret_v ?_ q
    have hk2 : k.toNat < ns.length := by omega
    have e : atI ns k = some (ns.getD k.toNat 0) := by
      have e1 : k = (k.toNat : Int) := by omega
      rw [e1, List.getD_eq_getElem?_getD, Int.toNat_natCast, List.getElem?_eq_getElem hk2]
      exact atI_nat (List.getElem?_eq_getElem hk2)
    exact "v"
  · intro h
    rw [cellZ, if_neg (of_decide_eq_false h)] at q
    exact ret_v v_int q
theorem pu_cell {om : Om} {ns : List Int} {k : Int} (h : 0 ≤ k) : Pu G_wcell_at om [.scr ns, .int k] (.int (cellZ ns k)) := .mk fun Q R q => ⟨ns, k, rfl, h, q⟩
local macro_rules | `(tactic| exact "pu") => `(tactic| ((with_reducible apply pu_cell); omega))
def G_wwhole : Fs := fun ds om Q _ => ∃ i, ds = [.int i] ∧ Q (.bl true) om
theorem ok_wwhole (B : Blt mg) (F : Df K d_wwhole f fd) : FnOk P w K mg base (L2.CX P w) 1 f fd ["_law_found"] (spD K 1 G_wwhole) := by
  refine def_ok' F sc_wwhole rfl N_wwhole rfl (by decide +kernel) ?_
  rintro X rfl rfl rfl rfl rfl ⟨nN, nd, sc, calm, fn, room, un, pass, stk, frm, exs⟩ ⟨⟨_, _⟩, _⟩ om ds Q Rr hl ⟨c, rfl, q⟩
  exact "st"
  exact ret_v (d := .bl (true && !false)) (by exact "v") q
theorem pu_whole {om : Om} {i : Int} : Pu G_wwhole om [.int i] (.bl true) := .mk fun Q R q => ⟨i, rfl, q⟩
local macro_rules | `(tactic| exact "pu") => `(tactic| with_reducible exact pu_whole)
--SEG
local macro_rules | `(tactic| exact "v") => `(tactic| ((with_reducible apply v_isX); (focus exact "nm"); (focus assumption); (focus assumption); (focus assumption); (focus assumption); (exact Blt.bIsi (by assumption)); (focus exact "gl"); (focus exact "gl"); rfl; rfl; rfl))
/-- the caught refusal -/
def G_wanother (CF : Addr) : Fs := fun ds om Q _ => ∃ a fs, ds = [.obj a] ∧ om a = some (.exc CF fs) ∧ Q (.bl false) om
theorem ok_wanother {CF : Addr} (B : Blt mg) (xi : Xis K CF) {C0 : Addr} (g0 : mg "NoFit" = some (.ref C0)) (k0 : PySem.W.kitOne K (.ref CF) (.ref C0) = some false) {C1 : Addr} (g1 : mg "Barred" = some (.ref C1)) (k1 : PySem.W.kitOne K (.ref CF) (.ref C1) = some false) {C2 : Addr} (g2 : mg "NoMatter" = some (.ref C2)) (k2 : PySem.W.kitOne K (.ref CF) (.ref C2) = some false) {C3 : Addr} (g3 : mg "NoChange" = some (.ref C3)) (k3 : PySem.W.kitOne K (.ref CF) (.ref C3) = some false) {C4 : Addr} (g4 : mg "NotLater" = some (.ref C4)) (k4 : PySem.W.kitOne K (.ref CF) (.ref C4) = some false) {C5 : Addr} (g5 : mg "Nothing" = some (.ref C5)) (k5 : PySem.W.kitOne K (.ref CF) (.ref C5) = some false) {C6 : Addr} (g6 : mg "TooMany" = some (.ref C6)) (k6 : PySem.W.kitOne K (.ref CF) (.ref C6) = some false) {C7 : Addr} (g7 : mg "NoAside" = some (.ref C7)) (k7 : PySem.W.kitOne K (.ref CF) (.ref C7) = some false) {C8 : Addr} (g8 : mg "NotYet" = some (.ref C8)) (k8 : PySem.W.kitOne K (.ref CF) (.ref C8) = some false) {C9 : Addr} (g9 : mg "NoNumber" = some (.ref C9)) (k9 : PySem.W.kitOne K (.ref CF) (.ref C9) = some false) {C10 : Addr} (g10 : mg "NoName" = some (.ref C10)) (k10 : PySem.W.kitOne K (.ref CF) (.ref C10) = some false) (F : Df K d_wanother f fd) : FnOk P w K mg base (L2.CX P w) 1 f fd ["_law_caught"] (spD K 1 (G_wanother CF)) := by
  refine def_ok' F sc_wanother rfl N_wanother rfl (by decide +kernel) ?_
  rintro X rfl rfl rfl rfl rfl ⟨nN, nd, sc, calm, fn, room, un, pass, stk, frm, exs⟩ ⟨⟨_, _⟩, ⟨_, _⟩, _⟩ om ds Q Rr hl ⟨a, fs, rfl, ha, q⟩
  exact "st"
  have sz : sizeLine = 16777216 := sizeLine_eq
  have l0 := Kl.own (X := X) (x := "NoFit") C0 g0 (by decide)
  have l1 := Kl.own (X := X) (x := "Barred") C1 g1 (by decide)
  have l2 := Kl.own (X := X) (x := "NoMatter") C2 g2 (by decide)
  have l3 := Kl.own (X := X) (x := "NoChange") C3 g3 (by decide)
  have l4 := Kl.own (X := X) (x := "NotLater") C4 g4 (by decide)
  have l5 := Kl.own (X := X) (x := "Nothing") C5 g5 (by decide)
  have l6 := Kl.own (X := X) (x := "TooMany") C6 g6 (by decide)
  have l7 := Kl.own (X := X) (x := "NoAside") C7 g7 (by decide)
  have l8 := Kl.own (X := X) (x := "NotYet") C8 g8 (by decide)
  have l9 := Kl.own (X := X) (x := "NoNumber") C9 g9 (by decide)
  have l10 := Kl.own (X := X) (x := "NoName") C10 g10 (by decide)
  exact "asg"
  exact "asg"
  exact "asg"
  change ws X _ [some (.obj a), some (.lst (List.map D.bl [false, false, false, false, false, false, false, false, false]))] om _
  refine ret_v (d := .bl ([false, false, false, false, false, false, false, false, false].any id || (false || false))) ?_ q
  exact "v"
--SEG
local macro_rules | `(tactic| exact "v") => `(tactic| ((with_reducible apply v_xfld); (focus exact "nm"); (focus assumption); (focus assumption); (focus assumption); (focus assumption); rfl))
local macro_rules | `(tactic| exact "pu") => `(tactic| with_reducible assumption)
def G_wrefused : Fs := fun ds om Q _ => ∃ s, ds = [.str s] ∧ smR s ∧ readR s = none ∧ ∀ om', Ext om om' → Q (.bl true) om'
theorem ok_wrefused {CF CE : Addr} (B : Blt mg) (xN : XcF P w K mg base "NoRow" "row" CF) (xC : XfC K CF) (xi : Xis K CF) (gE : mg "ChamberError" = some (.ref CE)) (em : PySem.W.exmOne K (.ref CF) (.ref CE) = some true) (k0 : PySem.W.kitOne K (.ref CF) (.ref CF) = some true) (kV : PySem.W.kitOne K (.ref CF) (.type "ValueError") = some true)
    (D1 : DefOk P w K mg base "read_deed" 6 1 (G_read_deed CF)) (D2 : DefOk P w K mg base "_law_whole" 1 1 G_wwhole) (D3 : DefOk P w K mg base "_law_another" 1 1 (G_wanother CF)) (F : Df K d_wrefused f fd) : FnOk P w K mg base (L2.CX P w) 7 f fd ["_law_row"] (spD K 1 G_wrefused) := by
  refine def_ok' F sc_wrefused rfl N_wrefused rfl (by decide +kernel) ?_
  rintro X rfl rfl rfl rfl rfl ⟨nN, nd, sc, calm, fn, room, un, pass, stk, frm, exs⟩ ⟨⟨_, _⟩, ⟨_, lt⟩, ⟨ne, le⟩, _⟩ om ds Q Rr hl ⟨s, rfl, hs, hr, q⟩
  exact "st"
  have sz : sizeLine = 16777216 := sizeLine_eq
  exact "asg"
  refine st_try stk frm nd fun pn xe hp => ?_
  refine st_callX D1 (Room.mono room (by decide)) (ds := [.str s]) (av_cons (NameAt.v (NameAt.tr (by assumption)) rfl) av_nil rfl) rfl ⟨s, rfl, hs, fun e z => ?_, fun _ om' hE => ?_⟩ (by exact "gl") (by decide) rfl rfl
  · rw [hr] at z
    cases z
  · refine hx_as (np := ⟨0, 0, 0, 0⟩) (p' := ⟨0, 0, 0, 0⟩) 2 gE (by exact "gl") ne.at_ (kind_of sc (by decide +kernel)) em fun a pn ha => ?_
    exact "ro"
    refine Lo.set (Lo.suite lt) nd (NameAt.v (NameAt.suite ne) rfl) ?_ rfl
    refine ws_nil ?_
    show ws X _ _ _ _
    exact "ro"
    have ha2 : (ups om' a (.exc CF [("row", .int 1)])) a = some (.exc CF [("row", .int 1)]) := ups_same
    have q2 := q (ups om' a (.exc CF [("row", .int 1)])) fun b o hb => (Ext.ups ha) b o (hE b o hb)
    generalize ups om' a (.exc CF [("row", .int 1)]) = om2 at *
    have l0 := Kl.own (X := X) (x := "NoRow") CF xN.g (by decide)
    have lV : Kl X "ValueError" (.type "ValueError") := Kl.ty "ValueError" B.valueError PyProof.Rows.Boot.«ValueError» (by decide) (by decide)
    have pa : Pu (G_wanother CF) om2 [.obj a] (.bl false) := .mk fun Q R k => ⟨a, _, rfl, ha2, k⟩
    have no := xN.no
    have hrow : List.lookup ("row" : Str) ([("row", D.int 1)] : List (Str × D)) = some (D.int 1) := rfl
    apply st_no
    · exact "t"
    · rfl
    apply st_no
    · exact "t"
    · rfl
    refine ret_v (d := .bl (true && decide ((1 : Int) = 1))) ?_ q2
    exact "v"
--SEG
def goodP : List (Str × Dd) := [("vote 0 9999999999", .vote 0 9999999999), ("matter", .mv (.matter [])), ("take 0", .take 0), ("matter /", .mv (.matter [""])), ("change put 0", .mv (.change (.put 0 ""))), ("point", .mv (.point "")), ("matter / - /", .mv (.matter ["-", ""])), ("drop", .drop)]
def goodOk (z : Str × Dd) : Bool := decide (readR z.1 = some z.2) && decide (z.1.length ≤ 1000) && decide ((Txt.split z.1 sp).length ≤ 1000)
theorem good_read : goodP.all goodOk = true := by decide +kernel
abbrev goodD (z : Str × Dd) : D := .tup [.str z.1, z.2.d]
theorem v_rd2 {C : Addr} {X : Cx} {ro : Ro} {om : Om} {a : Expr} {s : Str} {e : Dd} {p cp : Pos} (Dk : DefOk X.prog X.w X.K X.mg X.base "read_deed" 6 1 (G_read_deed C)) (hr : Room 6 X.A) (ha : wv X ro om a (.str s)) (he : readR s = some e) (hs : smR s) (hg : Gl X "read_deed")
    (h1 : starEach (a :: []) X.env = (false, eval a X.env) :: starEach [] X.env := by rfl) (hpl : (backTo cp (starEach [] X.env)).any (·.1) = false := by rfl) : wv X ro om (.Call (.Name "read_deed" p) [a] [] cp) e.d := by
  have rd : ∀ (R : RX) (Q : DK), rdQ e Q om → we X R ro om (.Call (.Name "read_deed" p) [a] [] cp) Q := fun R Q q => by
    refine e_call Dk hr ((av_cons ha av_nil h1) _ _ ⟨rfl, _, rfl, hs, fun e' z => ?_, fun z => ?_⟩) hg (by decide) h1 hpl
    · rw [he] at z
      cases z
      exact q
    · rw [he] at z
      cases z
  cases e with
  | mv t =>
    cases t with
    | matter t => exact v_tupN fun R Q q => rd R Q q
    | _ => exact .mk fun R Q q => rd R Q q
  | _ => exact .mk fun R Q q => rd R Q q
--SEG
local macro_rules | `(tactic| exact "pd") => `(tactic| with_reducible exact Dd.pd _)
local macro_rules | `(tactic| exact "pk") => `(tactic| with_reducible exact Dd.pk _)
local macro_rules | `(tactic| exact "v") => `(tactic| ((with_reducible apply v_rd2); (with_reducible assumption); (exact Room.mono (by assumption) (by decide)); (focus exact "v"); assumption; assumption; (focus exact "gl"); (focus exact "sd"); (focus exact "sd")))
def G_law : Fs := fun ds om Q _ => ∃ ns : List Int, ds = [.scr ns] ∧ ns.length ≤ 63 ∧ ∀ om', Q (.bl true) om'
theorem ok_law {C : Addr} (B : Blt mg) (D1 : DefOk P w K mg base "read_deed" 6 1 (G_read_deed C)) (D2 : DefOk P w K mg base "_law_cell_at" 1 2 G_wcell_at) (D3 : DefOk P w K mg base "_law_bad" 2 2 G_wbad) (D4 : DefOk P w K mg base "_law_refused" 7 1 G_wrefused) (F : Df K d_law f fd) : FnOk P w K mg base (L2.CX P w) 9 f fd ["_law_script"] (spD K 1 G_law) := by
  refine def_ok' F sc_law rfl N_law rfl (by decide +kernel) ?_
  rintro X rfl rfl rfl rfl rfl ⟨nN, nd, sc, calm, fn, room, un, pass, stk, frm, exs⟩ ⟨⟨_, _⟩, ⟨_, _⟩, ⟨_, _⟩, ⟨_, _⟩, ⟨_, l4⟩, ⟨_, l5⟩, _⟩ om ds Q Rr hl ⟨ns, rfl, hlen, q⟩
  exact "st"
  have sz : sizeLine = 16777216 := sizeLine_eq
  exact "asg"
  exact "asg"
  exact "asg"
  change ws X _ [some (.scr ns), some (.lst (goodP.map goodD)), none, none, none, none] om _
  apply st_for (g := gName 2) (U := fun d ro => ro.set 2 (some d)) (I := fun i ro' om' => ∃ a b c d, ro' = [some (.scr ns), some (.lst (goodP.map goodD)), a, b, c, d])
  exact "fo"
  case hi =>
    apply it_r3
    · exact "av"
    · exact Blt.range (by assumption)
    · exact rg2 (by split <;> split <;> omega) (by split <;> split <;> omega)
    · exact "gl"
    · exact "sd"
    · exact "sd"
  case h0 => exact ⟨_, _, _, _, rfl⟩
  case hP => exact fun _ _ _ _ => trivial
  case hd =>
    rintro ro' om' ⟨_, _, _, _, rfl⟩
    exact ret_v v_bl (q _)
  case hs =>
    rintro i d ro' om' hi ⟨v1, v2, v3, v4, rfl⟩
    obtain ⟨hlt, rfl⟩ := rng_item hi
    clear hi
    exact "ro"
    exact "asg"
    generalize cellZ ns (0 + (i : Int) * 2) = cl
    refine st_ifE (t_notE (t_val (e_call D4 (Room.mono room (by decide)) (a_cons (e_call D3 (Room.mono room (by decide)) ((show wav X _ om' _ [.int (cl % 10), .int (cl / 10)] by exact "av") _ _ ⟨rfl, _, _, rfl, fun s hs => a_nil ⟨rfl, s, rfl, (badOk.out hs).1, (badOk.out hs).2, fun om2 hE => ⟨true, rfl, (fun z => by cases z), fun _ => ws_nil ?_⟩⟩⟩) (by exact "gl"))) (by exact "gl"))))
    obtain ⟨z, hz, e0⟩ : ∃ z ∈ goodP, atI (goodP.map goodD) (cellZ ns (0 + (i : Int) * 2 + 1) % 8) = some (goodD z) := by
      have h1 := Int.emod_nonneg (cellZ ns (0 + (i : Int) * 2 + 1)) (show (8 : Int) ≠ 0 by decide)
      have h2 := Int.emod_lt_of_pos (cellZ ns (0 + (i : Int) * 2 + 1)) (show (0 : Int) < 8 by decide)
      generalize cellZ ns (0 + (i : Int) * 2 + 1) % 8 = y at *
      obtain ⟨m, rfl⟩ : ∃ m : Nat, y = (m : Int) := ⟨y.toNat, by omega⟩
      have hm : m < goodP.length := by show m < 8; omega
      exact ⟨goodP[m], List.getElem_mem hm, at_map (List.getElem?_eq_getElem hm)⟩
    have hg := List.all_eq_true.mp good_read z hz
    unfold goodOk at hg
    simp only [Bool.and_eq_true, decide_eq_true_eq] at hg
    have hr := hg.1.1
    have hsm : smR z.1 := ⟨by omega, by omega⟩
    refine Lo.un2 l4 l5 nd calm ((show wv X _ om2 _ (goodD z) from ?_) _ _ ⟨_, _, rfl, ?_⟩) rfl rfl rfl rfl rfl
    · exact "v"
    exact "ro"
    apply st_no
    · exact "t"
    · rw [eqv_self (pok_of (Dd.pk z.2))]
      rfl
    exact ws_nil ⟨_, _, _, _, rfl⟩
end
/-! ### the head -/
def fnL : List He.DefD := [d_clause_of, d_NoRow_init, d_number_by, d_check_words, d_text_by, d_edit_by, d_change_by, d_mend_by, d_put_off_by, d_point_by, d_plain_by, d_read_deed, d_wcell_at, d_wwhole, d_wbad_number, d_wnumbered, d_wbad, d_wanother, d_wrefused, d_law]
def fsL_0 : List Fk := [fFree18, fGlo "clause_of", fMeth "NoRow" "__init__", fGlo "number_by", fGlo "check_words", fGlo "text_by", fGlo "edit_by", fGlo "change_by", fGlo "mend_by", fGlo "put_off_by", fGlo "point_by", fGlo "plain_by", fGlo "read_deed", fGlo "_law_cell_at", fGlo "_law_whole", fGlo "_law_bad_number", fGlo "_law_numbered", fGlo "_law_bad", fGlo "_law_another", fGlo "_law_refused", fGlo "law", fInt "GREATEST" 999999999, fXF "NoRow" "row", fGlo "NoFit", fKit "NoRow" "NoFit" false, fGlo "Barred", fKit "NoRow" "Barred" false, fGlo "NoMatter", fKit "NoRow" "NoMatter" false, fGlo "NoChange"]
def fsL_1 : List Fk := [fKit "NoRow" "NoChange" false, fGlo "NotLater", fKit "NoRow" "NotLater" false, fGlo "Nothing", fKit "NoRow" "Nothing" false, fGlo "TooMany", fKit "NoRow" "TooMany" false, fGlo "NoAside", fKit "NoRow" "NoAside" false, fGlo "NotYet", fKit "NoRow" "NotYet" false, fGlo "NoNumber", fKit "NoRow" "NoNumber" false, fGlo "NoName", fKit "NoRow" "NoName" false, fGlo "ChamberError", fKit "NoRow" "NoRow" true, fKitT "NoRow" "ValueError" true, fExm "NoRow" "ChamberError" true, fXi "NoRow"]
def fsL : List Fk := fsL_0 ++ fsL_1
def looseL_0 : List PySem.Str := [("ChamberError" : PySem.Str), ("NoFit" : PySem.Str), ("Barred" : PySem.Str), ("NoMatter" : PySem.Str), ("NoChange" : PySem.Str), ("NotLater" : PySem.Str), ("Nothing" : PySem.Str), ("TooMany" : PySem.Str), ("NoAside" : PySem.Str), ("NotYet" : PySem.Str), ("NoNumber" : PySem.Str), ("NoRow" : PySem.Str), ("NoName" : PySem.Str), ("clause_of" : PySem.Str), ("GREATEST" : PySem.Str), ("number_by" : PySem.Str), ("check_words" : PySem.Str), ("text_by" : PySem.Str), ("edit_by" : PySem.Str), ("change_by" : PySem.Str)]
def looseL_1 : List PySem.Str := [("mend_by" : PySem.Str), ("put_off_by" : PySem.Str), ("point_by" : PySem.Str), ("plain_by" : PySem.Str), ("read_deed" : PySem.Str), ("_law_cell_at" : PySem.Str), ("_law_whole" : PySem.Str), ("_law_bad_number" : PySem.Str), ("_law_numbered" : PySem.Str), ("_law_bad" : PySem.Str), ("_law_another" : PySem.Str), ("_law_refused" : PySem.Str)]
def looseL : List PySem.Str := looseL_0 ++ looseL_1
abbrev hkL : PySem.W.Hook := hookM 4 fsL fnL
def obL (s : PySem.W.SharedT) : AlM := obsMG 4 fsL fnL (HandSHeadRun.getT s)
theorem ob_eqL (s : PySem.W.SharedT) : obL s = hkL.obs s.abs := obsMG_eq (HandSHeadRun.getT_eq s)
theorem runL (w : World) : HandSHeadRun.RunEq (PySem.W.OpenLaw.row PySem.Challenge.rw_moot_k29_rows_refused) (PySem.W.view (PySem.W.OpenLaw.row PySem.Challenge.rw_moot_k29_rows_refused).prog [36]) hkL obL 16000 looseL w := by
  intro os
  kernel_rfl
abbrev stepsL : Nat := 16000
theorem start_law (ns : List Int) (h : ns.length ≤ 63) : G_law [.scr ns] (fun _ => none) (fun d _ => d = .bl true) (fun _ _ _ => False) := ⟨ns, rfl, h, fun _ => rfl⟩
theorem facts (w : World) (K : PySem.W.Frag) (mg : Str → Option Value) (fa : Addr) (h : Heap) (X : K.In h) (G : h.Ns mainGlobals mg) (hfa : mg "law" = some (.ref fa)) (c : SaysM fsL fnL K) :
    ∃ fd : FuncData, (∀ (s : Shared) (u : Value), BindsTo s fd ⟨[u], []⟩ [("_law_script", u)]) ∧ ∀ base : Heap, K.In base → base.Ns mainGlobals mg → FnOk (PySem.Challenge.rw_moot_k29_rows_refused).prog w K mg base (L2.CX (PySem.Challenge.rw_moot_k29_rows_refused).prog w) 9 fa fd ["_law_script"] (spD K 1 G_law) := by
  have B : Blt mg := fBlt_ok X G (c.fact 0 (f := fFree18) rfl)
  obtain ⟨fd_clause_of, F_clause_of⟩ := c.def_ 0 (d := d_clause_of) rfl
  have g_clause_of := fGlo_ok X G (c.fact 1 (f := fGlo "clause_of") rfl)
  have b_clause_of := F_clause_of.bindsN (ps := ["words"]) fun _ _ _ _ _ _ us hl => match us, hl with | [_], _ => rfl
  obtain ⟨fd_NoRow_init, F_NoRow_init⟩ := c.def_ 1 (d := d_NoRow_init) rfl
  have m_NoRow_init := He.meth_ok (c.fact 2 (f := fMeth "NoRow" "__init__") rfl)
  have b_NoRow_init := F_NoRow_init.bindsN (ps := ["self", "row"]) fun _ _ _ _ _ _ us hl => match us, hl with | [_, _], _ => rfl
  obtain ⟨fd_number_by, F_number_by⟩ := c.def_ 2 (d := d_number_by) rfl
  have g_number_by := fGlo_ok X G (c.fact 3 (f := fGlo "number_by") rfl)
  have b_number_by := F_number_by.bindsN (ps := ["word"]) fun _ _ _ _ _ _ us hl => match us, hl with | [_], _ => rfl
  obtain ⟨fd_check_words, F_check_words⟩ := c.def_ 3 (d := d_check_words) rfl
  have g_check_words := fGlo_ok X G (c.fact 4 (f := fGlo "check_words") rfl)
  have b_check_words := F_check_words.bindsN (ps := ["words"]) fun _ _ _ _ _ _ us hl => match us, hl with | [_], _ => rfl
  obtain ⟨fd_text_by, F_text_by⟩ := c.def_ 4 (d := d_text_by) rfl
  have g_text_by := fGlo_ok X G (c.fact 5 (f := fGlo "text_by") rfl)
  have b_text_by := F_text_by.bindsN (ps := ["words"]) fun _ _ _ _ _ _ us hl => match us, hl with | [_], _ => rfl
  obtain ⟨fd_edit_by, F_edit_by⟩ := c.def_ 5 (d := d_edit_by) rfl
  have g_edit_by := fGlo_ok X G (c.fact 6 (f := fGlo "edit_by") rfl)
  have b_edit_by := F_edit_by.bindsN (ps := ["words"]) fun _ _ _ _ _ _ us hl => match us, hl with | [_], _ => rfl
  obtain ⟨fd_change_by, F_change_by⟩ := c.def_ 6 (d := d_change_by) rfl
  have g_change_by := fGlo_ok X G (c.fact 7 (f := fGlo "change_by") rfl)
  have b_change_by := F_change_by.bindsN (ps := ["words"]) fun _ _ _ _ _ _ us hl => match us, hl with | [_], _ => rfl
  obtain ⟨fd_mend_by, F_mend_by⟩ := c.def_ 7 (d := d_mend_by) rfl
  have g_mend_by := fGlo_ok X G (c.fact 8 (f := fGlo "mend_by") rfl)
  have b_mend_by := F_mend_by.bindsN (ps := ["words"]) fun _ _ _ _ _ _ us hl => match us, hl with | [_], _ => rfl
  obtain ⟨fd_put_off_by, F_put_off_by⟩ := c.def_ 8 (d := d_put_off_by) rfl
  have g_put_off_by := fGlo_ok X G (c.fact 9 (f := fGlo "put_off_by") rfl)
  have b_put_off_by := F_put_off_by.bindsN (ps := ["words"]) fun _ _ _ _ _ _ us hl => match us, hl with | [_], _ => rfl
  obtain ⟨fd_point_by, F_point_by⟩ := c.def_ 9 (d := d_point_by) rfl
  have g_point_by := fGlo_ok X G (c.fact 10 (f := fGlo "point_by") rfl)
  have b_point_by := F_point_by.bindsN (ps := ["words"]) fun _ _ _ _ _ _ us hl => match us, hl with | [_], _ => rfl
  obtain ⟨fd_plain_by, F_plain_by⟩ := c.def_ 10 (d := d_plain_by) rfl
  have g_plain_by := fGlo_ok X G (c.fact 11 (f := fGlo "plain_by") rfl)
  have b_plain_by := F_plain_by.bindsN (ps := ["words"]) fun _ _ _ _ _ _ us hl => match us, hl with | [_], _ => rfl
  obtain ⟨fd_read_deed, F_read_deed⟩ := c.def_ 11 (d := d_read_deed) rfl
  have g_read_deed := fGlo_ok X G (c.fact 12 (f := fGlo "read_deed") rfl)
  have b_read_deed := F_read_deed.bindsN (ps := ["row"]) fun _ _ _ _ _ _ us hl => match us, hl with | [_], _ => rfl
  obtain ⟨fd_wcell_at, F_wcell_at⟩ := c.def_ 12 (d := d_wcell_at) rfl
  have g_wcell_at := fGlo_ok X G (c.fact 13 (f := fGlo "_law_cell_at") rfl)
  have b_wcell_at := F_wcell_at.bindsN (ps := ["_law_script", "_law_k"]) fun _ _ _ _ _ _ us hl => match us, hl with | [_, _], _ => rfl
  obtain ⟨fd_wwhole, F_wwhole⟩ := c.def_ 13 (d := d_wwhole) rfl
  have g_wwhole := fGlo_ok X G (c.fact 14 (f := fGlo "_law_whole") rfl)
  have b_wwhole := F_wwhole.bindsN (ps := ["_law_found"]) fun _ _ _ _ _ _ us hl => match us, hl with | [_], _ => rfl
  obtain ⟨fd_wbad_number, F_wbad_number⟩ := c.def_ 14 (d := d_wbad_number) rfl
  have g_wbad_number := fGlo_ok X G (c.fact 15 (f := fGlo "_law_bad_number") rfl)
  have b_wbad_number := F_wbad_number.bindsN (ps := ["_law_draw"]) fun _ _ _ _ _ _ us hl => match us, hl with | [_], _ => rfl
  obtain ⟨fd_wnumbered, F_wnumbered⟩ := c.def_ 15 (d := d_wnumbered) rfl
  have g_wnumbered := fGlo_ok X G (c.fact 16 (f := fGlo "_law_numbered") rfl)
  have b_wnumbered := F_wnumbered.bindsN (ps := ["_law_number", "_law_draw"]) fun _ _ _ _ _ _ us hl => match us, hl with | [_, _], _ => rfl
  obtain ⟨fd_wbad, F_wbad⟩ := c.def_ 16 (d := d_wbad) rfl
  have g_wbad := fGlo_ok X G (c.fact 17 (f := fGlo "_law_bad") rfl)
  have b_wbad := F_wbad.bindsN (ps := ["_law_way", "_law_draw"]) fun _ _ _ _ _ _ us hl => match us, hl with | [_, _], _ => rfl
  obtain ⟨fd_wanother, F_wanother⟩ := c.def_ 17 (d := d_wanother) rfl
  have g_wanother := fGlo_ok X G (c.fact 18 (f := fGlo "_law_another") rfl)
  have b_wanother := F_wanother.bindsN (ps := ["_law_caught"]) fun _ _ _ _ _ _ us hl => match us, hl with | [_], _ => rfl
  obtain ⟨fd_wrefused, F_wrefused⟩ := c.def_ 18 (d := d_wrefused) rfl
  have g_wrefused := fGlo_ok X G (c.fact 19 (f := fGlo "_law_refused") rfl)
  have b_wrefused := F_wrefused.bindsN (ps := ["_law_row"]) fun _ _ _ _ _ _ us hl => match us, hl with | [_], _ => rfl
  obtain ⟨fd_law, F_law⟩ := c.def_ 19 (d := d_law) rfl
  have g_law := fGlo_ok X G (c.fact 20 (f := fGlo "law") rfl)
  have b_law := F_law.bindsN (ps := ["_law_script"]) fun _ _ _ _ _ _ us hl => match us, hl with | [_], _ => rfl
  have gi_GREATEST := He.int_ok X G (c.fact 21 (f := fInt "GREATEST" 999999999) rfl)
  have xf_NoRow := fun base => fXF_ok (P := (PySem.Challenge.rw_moot_k29_rows_refused).prog) (w := w) (base := base) X G (c.fact 22 (f := fXF "NoRow" "row") rfl) F_NoRow_init sc_NoRow_init b_NoRow_init (by decide +kernel) rfl
  have g_NoFit := fGlo_ok X G (c.fact 23 (f := fGlo "NoFit") rfl)
  have ki_NoRow_NoFit := fKit_ok (c.fact 24 (f := fKit "NoRow" "NoFit" false) rfl)
  have g_Barred := fGlo_ok X G (c.fact 25 (f := fGlo "Barred") rfl)
  have ki_NoRow_Barred := fKit_ok (c.fact 26 (f := fKit "NoRow" "Barred" false) rfl)
  have g_NoMatter := fGlo_ok X G (c.fact 27 (f := fGlo "NoMatter") rfl)
  have ki_NoRow_NoMatter := fKit_ok (c.fact 28 (f := fKit "NoRow" "NoMatter" false) rfl)
  have g_NoChange := fGlo_ok X G (c.fact 29 (f := fGlo "NoChange") rfl)
  have ki_NoRow_NoChange := fKit_ok (c.fact 30 (f := fKit "NoRow" "NoChange" false) rfl)
  have g_NotLater := fGlo_ok X G (c.fact 31 (f := fGlo "NotLater") rfl)
  have ki_NoRow_NotLater := fKit_ok (c.fact 32 (f := fKit "NoRow" "NotLater" false) rfl)
  have g_Nothing := fGlo_ok X G (c.fact 33 (f := fGlo "Nothing") rfl)
  have ki_NoRow_Nothing := fKit_ok (c.fact 34 (f := fKit "NoRow" "Nothing" false) rfl)
  have g_TooMany := fGlo_ok X G (c.fact 35 (f := fGlo "TooMany") rfl)
  have ki_NoRow_TooMany := fKit_ok (c.fact 36 (f := fKit "NoRow" "TooMany" false) rfl)
  have g_NoAside := fGlo_ok X G (c.fact 37 (f := fGlo "NoAside") rfl)
  have ki_NoRow_NoAside := fKit_ok (c.fact 38 (f := fKit "NoRow" "NoAside" false) rfl)
  have g_NotYet := fGlo_ok X G (c.fact 39 (f := fGlo "NotYet") rfl)
  have ki_NoRow_NotYet := fKit_ok (c.fact 40 (f := fKit "NoRow" "NotYet" false) rfl)
  have g_NoNumber := fGlo_ok X G (c.fact 41 (f := fGlo "NoNumber") rfl)
  have ki_NoRow_NoNumber := fKit_ok (c.fact 42 (f := fKit "NoRow" "NoNumber" false) rfl)
  have g_NoName := fGlo_ok X G (c.fact 43 (f := fGlo "NoName") rfl)
  have ki_NoRow_NoName := fKit_ok (c.fact 44 (f := fKit "NoRow" "NoName" false) rfl)
  have g_ChamberError := fGlo_ok X G (c.fact 45 (f := fGlo "ChamberError") rfl)
  have ki_NoRow_NoRow := fKit_ok (c.fact 46 (f := fKit "NoRow" "NoRow" true) rfl)
  have kt_NoRow_ValueError := fKitT_ok (c.fact 47 (f := fKitT "NoRow" "ValueError" true) rfl)
  have em_NoRow_ChamberError := fExm_ok (c.fact 48 (f := fExm "NoRow" "ChamberError" true) rfl)
  have xi_NoRow := fXi_ok (c.fact 49 (f := fXi "NoRow") rfl)
  cases hfa.symm.trans g_law
  refine ⟨fd_law, fun s v => FunD.bindsA (ps := ["_law_script"]) F_law (fun _ _ _ _ _ _ us hl => match us, hl with | [_], _ => rfl) s [v] rfl, fun base _ _ => ?_⟩
  have D_clause_of : DefOk (PySem.Challenge.rw_moot_k29_rows_refused).prog w K mg base "clause_of" 1 1 G_clause_of := dk_of (ok_clause_of B  F_clause_of) g_clause_of F_clause_of.kp b_clause_of
  have xC := (xf_NoRow base).2
  have xN := (xf_NoRow base).1
  have D_number_by : DefOk (PySem.Challenge.rw_moot_k29_rows_refused).prog w K mg base "number_by" 3 1 (G_number_by (He.ga K "NoRow")) := dk_of (ok_number_by B xN F_number_by) g_number_by F_number_by.kp b_number_by
  have D_check_words : DefOk (PySem.Challenge.rw_moot_k29_rows_refused).prog w K mg base "check_words" 3 1 (G_check_words (He.ga K "NoRow")) := dk_of (ok_check_words B xN F_check_words) g_check_words F_check_words.kp b_check_words
  have D_text_by : DefOk (PySem.Challenge.rw_moot_k29_rows_refused).prog w K mg base "text_by" 4 1 (G_text_by (He.ga K "NoRow")) := dk_of (ok_text_by B xN D_check_words D_clause_of F_text_by) g_text_by F_text_by.kp b_text_by
  have D_edit_by : DefOk (PySem.Challenge.rw_moot_k29_rows_refused).prog w K mg base "edit_by" 4 1 (G_edit_by (He.ga K "NoRow")) := dk_of (ok_edit_by B xN D_number_by D_check_words F_edit_by) g_edit_by F_edit_by.kp b_edit_by
  have D_change_by : DefOk (PySem.Challenge.rw_moot_k29_rows_refused).prog w K mg base "change_by" 5 1 (G_change_by (He.ga K "NoRow")) := dk_of (ok_change_by B D_edit_by D_clause_of F_change_by) g_change_by F_change_by.kp b_change_by
  have D_mend_by : DefOk (PySem.Challenge.rw_moot_k29_rows_refused).prog w K mg base "mend_by" 5 1 (G_mend_by (He.ga K "NoRow")) := dk_of (ok_mend_by B xN D_edit_by F_mend_by) g_mend_by F_mend_by.kp b_mend_by
  have D_put_off_by : DefOk (PySem.Challenge.rw_moot_k29_rows_refused).prog w K mg base "put_off_by" 4 1 (G_put_off_by (He.ga K "NoRow")) := dk_of (ok_put_off_by B gi_GREATEST xN D_number_by F_put_off_by) g_put_off_by F_put_off_by.kp b_put_off_by
  have D_point_by : DefOk (PySem.Challenge.rw_moot_k29_rows_refused).prog w K mg base "point_by" 4 1 (G_point_by (He.ga K "NoRow")) := dk_of (ok_point_by B D_check_words D_clause_of F_point_by) g_point_by F_point_by.kp b_point_by
  have D_plain_by : DefOk (PySem.Challenge.rw_moot_k29_rows_refused).prog w K mg base "plain_by" 4 1 (G_plain_by (He.ga K "NoRow")) := dk_of (ok_plain_by B xN D_number_by F_plain_by) g_plain_by F_plain_by.kp b_plain_by
  have D_read_deed : DefOk (PySem.Challenge.rw_moot_k29_rows_refused).prog w K mg base "read_deed" 6 1 (G_read_deed (He.ga K "NoRow")) := dk_of (ok_read_deed B D_text_by D_change_by D_mend_by D_put_off_by D_point_by D_plain_by F_read_deed) g_read_deed F_read_deed.kp b_read_deed
  have D_wcell_at : DefOk (PySem.Challenge.rw_moot_k29_rows_refused).prog w K mg base "_law_cell_at" 1 2 G_wcell_at := dk_of (ok_wcell_at B  F_wcell_at) g_wcell_at F_wcell_at.kp b_wcell_at
  have D_wwhole : DefOk (PySem.Challenge.rw_moot_k29_rows_refused).prog w K mg base "_law_whole" 1 1 G_wwhole := dk_of (ok_wwhole B  F_wwhole) g_wwhole F_wwhole.kp b_wwhole
  have D_wbad_number : DefOk (PySem.Challenge.rw_moot_k29_rows_refused).prog w K mg base "_law_bad_number" 1 1 G_wbad_number := dk_of (ok_wbad_number B  F_wbad_number) g_wbad_number F_wbad_number.kp b_wbad_number
  have D_wnumbered : DefOk (PySem.Challenge.rw_moot_k29_rows_refused).prog w K mg base "_law_numbered" 1 2 G_wnumbered := dk_of (ok_wnumbered B  F_wnumbered) g_wnumbered F_wnumbered.kp b_wnumbered
  have D_wbad : DefOk (PySem.Challenge.rw_moot_k29_rows_refused).prog w K mg base "_law_bad" 2 2 G_wbad := dk_of (ok_wbad B D_wbad_number D_wnumbered F_wbad) g_wbad F_wbad.kp b_wbad
  have D_wanother : DefOk (PySem.Challenge.rw_moot_k29_rows_refused).prog w K mg base "_law_another" 1 1 (G_wanother (He.ga K "NoRow")) := dk_of (ok_wanother B xi_NoRow g_NoFit ki_NoRow_NoFit g_Barred ki_NoRow_Barred g_NoMatter ki_NoRow_NoMatter g_NoChange ki_NoRow_NoChange g_NotLater ki_NoRow_NotLater g_Nothing ki_NoRow_Nothing g_TooMany ki_NoRow_TooMany g_NoAside ki_NoRow_NoAside g_NotYet ki_NoRow_NotYet g_NoNumber ki_NoRow_NoNumber g_NoName ki_NoRow_NoName F_wanother) g_wanother F_wanother.kp b_wanother
  have D_wrefused : DefOk (PySem.Challenge.rw_moot_k29_rows_refused).prog w K mg base "_law_refused" 7 1 G_wrefused := dk_of (ok_wrefused B xN xC xi_NoRow g_ChamberError em_NoRow_ChamberError ki_NoRow_NoRow kt_NoRow_ValueError D_read_deed D_wwhole D_wanother F_wrefused) g_wrefused F_wrefused.kp b_wrefused
  exact ok_law B D_read_deed D_wcell_at D_wbad D_wrefused F_law
end Law
open PySem PySem.W PySem.Calls PyProof.Rows
set_option maxHeartbeats 0 in
theorem PySem.Challenge.cw_moot_k29_rows_refused_holds : PySem.Challenge.rw_moot_k29_rows_refused.Holds := by
  w_on; o_law
  refine HandSHeadRun.head_any (r := OpenLaw.row PySem.Challenge.rw_moot_k29_rows_refused) (q := view (OpenLaw.row PySem.Challenge.rw_moot_k29_rows_refused).prog [36]) (H := Law.hkL) (ob := Law.obL) (M := Law.stepsL) (loose := Law.looseL) (d := HandSHeadRun.topDef (OpenLaw.row PySem.Challenge.rw_moot_k29_rows_refused).prog 36) (kwd := []) Law.ob_eqL
    (by kernel_rfl) (fun s => by kernel_rfl) Law.runL (by kernel_rfl) (by kernel_rfl) (by kernel_rfl) (by rfl) (by first | assumption | decide +kernel) (by decide +kernel) ⟨rfl, rfl, rfl, rfl, rfl, by decide +kernel⟩ ?hw ?hc
  case hw => w_witness2
  case hc => exact Mo.walk_law (l := PySem.Challenge.rw_moot_k29_rows_refused) (n := 63) (k := 9) (x := "_law_script") (G := Law.G_law) rfl (by decide) (by kernel_rfl) ⟨rfl, by decide, by decide⟩ (by kernel_rfl) Law.start_law Law.facts
#print axioms PySem.Challenge.cw_moot_k29_rows_refused_holds
