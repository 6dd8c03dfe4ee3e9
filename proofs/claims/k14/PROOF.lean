import PyProof.Rows.All
import Wide.All
import OpenK.AllK
import Wide.FinOn
import KE.KExcIs
import HandS.ForMost
import HandS.ForExc
import HandS.ExcValue
import HandS.ExcField
import HandS.ExcInit
import HandS.Defaults
import HandS.Head0
import HandS.Head1
import HandS.Head2
import HandS.HeadEnd
import HandS.HeadHook1
import HandS.HeadHook2
import HandS.IsInst
import HandS.TupMul
import KE.DataEq
import HandS.SortInts
import HandS.StrMore
import HandS.TryOnly
import KE.GoesMore
import KE.GoesEnum
import HandS.Iter
import HandS.Codes
import PyProof.StrBlock2
import HandS.Small
import HandS.More
import HandS.DictComp
import HandS.Conv
import HandS.Flow
import PySem.Challenge.RW_moot_k14_refusals_apart
set_option Elab.async false
set_option linter.all false
set_option maxRecDepth 100000
set_option maxHeartbeats 4000000
set_option autoImplicit false
/-! The facts of a head, as tests of the written part; a head's run in three. -/
namespace Mo
open PySem PySem.Spec PyProof.Rows L2
abbrev Fk := PySem.W.Frag → Bool
abbrev AlM : Type := Bool × List He.FnW
def obsM (fs : List Fk) (fn : List He.DefD) (K : PySem.W.Frag) : AlM :=
  (fs.all (fun f => f K) && fn.all (He.DefD.ok K), fn.map fun d => He.fnW K d.at_)
def valM (fn : List He.DefD) : AlM := (true, fn.map He.DefD.val)
def SaysM (fs : List Fk) (fn : List He.DefD) (K : PySem.W.Frag) : Prop := obsM fs fn K = valM fn
def obsMG (n : Nat) (fs : List Fk) (fn : List He.DefD) (g : Addr → Option Obj) : AlM := obsM fs fn (He.frG g (He.asD g n))
def hookM (n : Nat) (fs : List Fk) (fn : List He.DefD) : PySem.W.Hook where
  α := AlM
  obs := fun s => obsMG n fs fn s.heap.get?
  val := fun _ => valM fn
  says := fun _ h => ∃ K : PySem.W.Frag, K.In h ∧ SaysM fs fn K
  of := fun _ _ e => ⟨_, He.frG_in, e⟩
  keeps := fun _ _ _ z k => match z with
    | ⟨K, hK, c⟩ => ⟨K, PySem.W.Frag.In.keeps hK k, c⟩
theorem obsMG_eq {n : Nat} {fs : List Fk} {fn : List He.DefD} {g : Addr → Option Obj} {s : Shared} (h : ∀ a, g a = s.heap.get? a) : obsMG n fs fn g = (hookM n fs fn).obs s := by
  rw [show g = s.heap.get? from funext h]
  rfl
def fGlo (x : Str) : Fk := fun K => He.eqO (PySem.W.nsIn K mainGlobals x) (some (some (.ref (He.ga K x))))
def fFree (x : Str) : Fk := fun K => He.eqO (PySem.W.nsIn K mainGlobals x) (some none)
def fCls (x : Str) : Fk := fun K => (He.Fa.cls x).ok K
def fNoat (x f : Str) : Fk := fun K => (He.Fa.noat x f).ok K
def fMeth (x m : Str) : Fk := fun K => (He.Fa.meth x m).ok K
def fMkr (x : Str) : Fk := fun K => (He.Fa.mkr x).ok K
def fExc (x : Str) : Fk := fun K => (He.Fa.exc x).ok K
def fInt (x : Str) (i : Int) : Fk := fun K => (He.Fa.int x i).ok K
def fStr (x z : Str) : Fk := fun K => (He.Fa.str x z).ok K
def fFree18 : Fk := fun K => (["len", "list", "int", "str", "bool", "tuple", "max", "min", "any", "all", "sum", "sorted", "range", "enumerate", "zip", "reversed", "isinstance", "ValueError"] : List Str).all fun x => fFree x K
def oexT (K : PySem.W.Frag) (C : Addr) : Bool := match K.lookup C with
  | some ⟨.type t, _, .cls c, l⟩ => (match c.mro, l.toList with
    | .ref D :: m, [_, _, _, _, some (.builtin b), _] => decide (t = "type") && decide (D = C) && decide (b = "ValueError.__new__") && c.hasDict && !c.hasDel && PySem.HandSPX.refsVE m
    | _, _ => false)
  | _ => false
abbrev mI (K : PySem.W.Frag) (x : Str) : Addr := He.ma K (He.ga K x) "__init__"
def fX0 (x : Str) : Fk := fun K => fGlo x K && fExc x K
def fXF (x f : Str) : Fk := fun K => fGlo x K && oexT K (He.ga K x) && He.eqO (PySem.W.findIn K (.ref (He.ga K x)) "__setattr__") (some (some (.builtin "object.__setattr__"))) && decide (PySem.W.subIn K (.ref (He.ga K x)) (.type "BaseException") = some true) &&
  decide (PySem.W.typeIn K (.ref (He.ga K x)) = some (.type "type")) && PySem.W.keepIn K (.ref (He.ga K x)) && He.eqO (PySem.W.findIn K (.ref (He.ga K x)) f) (some none) && He.eqO (PySem.W.findIn K (.ref (He.ga K x)) "__init__") (some (some (.ref (mI K x)))) &&
  decide (PySem.W.typeIn K (.ref (mI K x)) = some (.type "function")) && xfB K (He.ga K x)
def fXi (x : Str) : Fk := fun K => (PySem.W.clsIn K (He.ga K x)).isSome && He.eqO (PySem.W.findIn K (.ref (He.ga K x)) "__getattribute__") (some (some (.builtin "BaseException.__getattribute__"))) && He.eqO (PySem.W.findIn K (.ref (He.ga K x)) "__getattr__") (some none) &&
  decide (PySem.W.subIn K (.ref (He.ga K x)) (.type "BaseException") = some true) && He.eqO (PySem.W.findIn K (.ref (He.ga K x)) "__class__") (some (some (.builtin "object.__class__"))) && He.eqO (PySem.W.specialIn K (.builtin "object.__class__") "__get__") (some (some (.builtin "getset_descriptor.__get__"))) &&
  decide (PySem.W.takesIn K (.builtin "object.__class__") = some true) && decide (PySem.W.mroIn K (He.ga K x) (.type "object") = some true)
def fExm (x y : Str) (b : Bool) : Fk := fun K => decide (PySem.W.exmOne K (.ref (He.ga K x)) (.ref (He.ga K y)) = some b)
def fKit (x y : Str) (b : Bool) : Fk := fun K => decide (PySem.W.kitOne K (.ref (He.ga K x)) (.ref (He.ga K y)) = some b)
def fKitT (x : Str) (t : String) (b : Bool) : Fk := fun K => decide (PySem.W.kitOne K (.ref (He.ga K x)) (.type t) = some b)
def fMk0 (x : Str) : Fk := fun K => fGlo x K && fCls x K && PySem.W.makesIn K (He.ga K x) && He.eqO (PySem.W.findIn K (.ref (He.ga K x)) "__init__") (some (some (.builtin "object.__init__"))) && PySem.W.keepIn K (.ref (He.ga K x))
def fMk (x : Str) : Fk := fun K => fGlo x K && fCls x K && fMkr x K
def fAtt (x f : Str) : Fk := fun K => fCls x K && fNoat x f K
def fMth (x m : Str) : Fk := fun K => fCls x K && fMeth x m K
def fInh (x y m : Str) : Fk := fun K => fCls x K && fMeth x m K && decide (He.ma K (He.ga K x) m = He.ma K (He.ga K y) m)
def fIns (x : Str) : Fk := fun K => fCls x K && He.eqO (PySem.W.findIn K (.ref (He.ga K x)) "__class__") (some (some (.builtin "object.__class__"))) && He.eqO (PySem.W.specialIn K (.builtin "object.__class__") "__get__") (some (some (.builtin "getset_descriptor.__get__"))) &&
  decide (PySem.W.takesIn K (.builtin "object.__class__") = some true) && decide (PySem.W.mroIn K (He.ga K x) (.type "object") = some true)
def strOf : Value → Option Str
  | .str s _ => some s
  | _ => none
def tupT (K : PySem.W.Frag) (a : Addr) (ss : List Str) : Bool := match K.lookup a with
  | some ⟨.type t, _, .seq its _, _⟩ => decide (t = "tuple") && decide (its.toList.map strOf = ss.map some) && decide (ss.length ≤ 1000)
  | _ => false
def fTupS (x : Str) (ss : List Str) : Fk := fun K => fGlo x K && tupT K (He.ga K x) ss
def rfN : List Str := ["Barred", "NoMatter", "NoChange", "NoFit", "NotLater", "Nothing", "TooMany", "NoAside", "NotYet"]
def rfA : List Str := ["Barred", "NoMatter", "NoChange", "NoFit", "NotLater", "Nothing", "TooMany", "NoAside", "NotYet", "NoNumber"]
def rfZ : List Str := ["Barred", "NoMatter", "NoChange", "NoFit", "NotLater", "Nothing", "TooMany", "NoAside", "NotYet", "NoNumber", "NoRow", "NoName"]
def fRfs : Fk := fun K => rfN.all fun x => fGlo x K && rfN.all fun y => decide (PySem.W.exmOne K (.ref (He.ga K x)) (.ref (He.ga K y)) = some (decide (x = y)))
def fKits (xs ys : List Str) : Fk := fun K => (xs.all fun x => fXi x K) && (ys.all fun y => fGlo y K) && xs.all fun x => ys.all fun y => decide (PySem.W.kitOne K (.ref (He.ga K x)) (.ref (He.ga K y)) = some (decide (x = y)))
def fKitN (ys : List Str) : Fk := fun K => ys.all fun y => decide (PySem.W.kitOne K (.type "NoneType") (.ref (He.ga K y)) = some false)
def fKitV (xs : List Str) (t : String) (b : Bool) : Fk := fun K => xs.all fun x => decide (PySem.W.kitOne K (.ref (He.ga K x)) (.type t) = some b)
def fRfB (y : Str) : Fk := fun K => fGlo y K && rfN.all fun x => decide (PySem.W.exmOne K (.ref (He.ga K x)) (.ref (He.ga K y)) = some true)
def kNames : List Str := ["Matter", "Change", "Mend", "PutOff", "Close", "Lay", "Rest", "Point"]
def fSorts : Fk := fun K => kNames.zipIdx.all fun x => decide (PySem.W.kitOne K (.ref (He.ga K x.1)) (.ref (He.ga K "Motion")) = some true) && kNames.zipIdx.all fun y => decide (PySem.W.kitOne K (.ref (He.ga K x.1)) (.ref (He.ga K y.1)) = some (decide (x.2 = y.2)))

section
open HandSHeadRun
/-- the written part that a look reads -/
def Kof (n : Nat) (s : PySem.W.SharedT) : PySem.W.Frag := He.frG (getT s) (He.asD (getT s) n)
/-- the run's equation from eight runs -/
theorem run8 {r : PySem.W.OpenRow} {q : Program} {n : Nat} {fA fB : List Fk} {dA dB : List He.DefD} {M : Nat} {loose : List PySem.Str} {w : World}
    (h1 : ∀ os : OsState, (endF (stepQ (denQ tabQ) r.prog w) M r.prog w os).map (fun s => looksF r.prog (PySem.W.boot_heap w.params) s.abs) = some true)
    (h2 : ∀ os : OsState, (endF (stepQ (denQ tabQ) r.prog w) M r.prog w os).map (fun s => (seenQ q loose (PySem.importedModules r.prog.main.body) (fun s => PySem.W.xlAt q [] s && PySem.W.recOk r.toRowW.records s) s.abs).1) = some (PySem.W.openGood q loose).1)
    (h3 : ∀ os : OsState, (endF (stepQ (denQ tabQ) r.prog w) M r.prog w os).map (fun s => (seenQ q loose (PySem.importedModules r.prog.main.body) (fun s => PySem.W.xlAt q [] s && PySem.W.recOk r.toRowW.records s) s.abs).2) = some (PySem.W.openGood q loose).2)
    (h4 : ∀ os : OsState, (endF (stepQ (denQ tabQ) r.prog w) M r.prog w os).map (fun s => fA.all fun f => f (Kof n s)) = some true)
    (h5 : ∀ os : OsState, (endF (stepQ (denQ tabQ) r.prog w) M r.prog w os).map (fun s => fB.all fun f => f (Kof n s)) = some true)
    (h6 : ∀ os : OsState, (endF (stepQ (denQ tabQ) r.prog w) M r.prog w os).map (fun s => (dA ++ dB).all (He.DefD.ok (Kof n s))) = some true)
    (h7 : ∀ os : OsState, (endF (stepQ (denQ tabQ) r.prog w) M r.prog w os).map (fun s => dA.map fun d => He.fnW (Kof n s) d.at_) = some (dA.map He.DefD.val))
    (h8 : ∀ os : OsState, (endF (stepQ (denQ tabQ) r.prog w) M r.prog w os).map (fun s => dB.map fun d => He.fnW (Kof n s) d.at_) = some (dB.map He.DefD.val)) :
    RunEq r q (hookM n (fA ++ fB) (dA ++ dB)) (fun s => obsMG n (fA ++ fB) (dA ++ dB) (getT s)) M loose w := fun os => by
  have a1 := h1 os
  have a2 := h2 os
  have a3 := h3 os
  have a4 := h4 os
  have a5 := h5 os
  have a6 := h6 os
  have a7 := h7 os
  have a8 := h8 os
  cases e : endF (stepQ (denQ tabQ) r.prog w) M r.prog w os with
  | none => rw [e] at a1; cases a1
  | some s =>
    rw [e] at a1 a2 a3 a4 a5 a6 a7 a8
    simp only [Option.map_some, Option.some.injEq] at a1 a2 a3 a4 a5 a6 a7 a8 ⊢
    rw [a1]
    refine Prod.ext rfl (Prod.ext (Prod.ext a2 a3) (Prod.ext ?_ ?_))
    · show (((fA ++ fB).all fun f => f (Kof n s)) && (dA ++ dB).all (He.DefD.ok (Kof n s))) = true
      rw [List.all_append, a4, a5, a6]
      rfl
    · show ((dA ++ dB).map fun d => He.fnW (Kof n s) d.at_) = (dA ++ dB).map He.DefD.val
      rw [List.map_append, List.map_append, a7, a8]
end
end Mo

set_option Elab.async false
set_option linter.all false
set_option maxRecDepth 100000
set_option maxHeartbeats 4000000
set_option autoImplicit true
namespace Law
open PySem L2 Mo
/-! ### the text by places -/
abbrev top (i : Nat) : Stmt := PySem.Challenge.pw_moot_k14_refusals_apart.main.body.getD i (.Pass ⟨0, 0, 0, 0⟩)
abbrev s_fits : Stmt := top 16
abbrev N_fits : List Str := ["things", "edit"]
theorem sc_fits : FnScope N_fits ["things", "edit"] (defScope s_fits) := ⟨rfl, rfl, rfl, by decide +kernel, rfl, by decide +kernel, by decide +kernel⟩
abbrev d_fits : He.DefD := ⟨("fits", none), "fits", "fits", defArgs s_fits, defBody s_fits, defScope s_fits, [], []⟩
abbrev s_laid : Stmt := top 17
abbrev N_laid : List Str := ["things", "edit", "at"]
theorem sc_laid : FnScope N_laid ["things", "edit"] (defScope s_laid) := ⟨rfl, rfl, rfl, by decide +kernel, rfl, by decide +kernel, by decide +kernel⟩
abbrev d_laid : He.DefD := ⟨("laid", none), "laid", "laid", defArgs s_laid, defBody s_laid, defScope s_laid, [], []⟩
abbrev s_words_of : Stmt := top 18
abbrev N_words_of : List Str := ["clause"]
theorem sc_words_of : FnScope N_words_of ["clause"] (defScope s_words_of) := ⟨rfl, rfl, rfl, by decide +kernel, rfl, by decide +kernel, by decide +kernel⟩
abbrev d_words_of : He.DefD := ⟨("words_of", none), "words_of", "words_of", defArgs s_words_of, defBody s_words_of, defScope s_words_of, [], []⟩
abbrev s_clause_of : Stmt := top 19
abbrev N_clause_of : List Str := ["words"]
theorem sc_clause_of : FnScope N_clause_of ["words"] (defScope s_clause_of) := ⟨rfl, rfl, rfl, by decide +kernel, rfl, by decide +kernel, by decide +kernel⟩
abbrev d_clause_of : He.DefD := ⟨("clause_of", none), "clause_of", "clause_of", defArgs s_clause_of, defBody s_clause_of, defScope s_clause_of, [], []⟩
abbrev s_show_text : Stmt := top 36
abbrev N_show_text : List Str := ["text", "words", "clause"]
theorem sc_show_text : FnScope N_show_text ["text"] (defScope s_show_text) := ⟨rfl, rfl, rfl, by decide +kernel, rfl, by decide +kernel, by decide +kernel⟩
abbrev d_show_text : He.DefD := ⟨("show_text", none), "show_text", "show_text", defArgs s_show_text, defBody s_show_text, defScope s_show_text, [], []⟩
abbrev s_show_edit : Stmt := top 37
abbrev N_show_edit : List Str := ["edit", "words"]
theorem sc_show_edit : FnScope N_show_edit ["edit"] (defScope s_show_edit) := ⟨rfl, rfl, rfl, by decide +kernel, rfl, by decide +kernel, by decide +kernel⟩
abbrev d_show_edit : He.DefD := ⟨("show_edit", none), "show_edit", "show_edit", defArgs s_show_edit, defBody s_show_edit, defScope s_show_edit, [], []⟩
abbrev s_show_deed : Stmt := top 38
abbrev N_show_deed : List Str := ["deed", "number"]
theorem sc_show_deed : FnScope N_show_deed ["deed"] (defScope s_show_deed) := ⟨rfl, rfl, rfl, by decide +kernel, rfl, by decide +kernel, by decide +kernel⟩
abbrev d_show_deed : He.DefD := ⟨("show_deed", none), "show_deed", "show_deed", defArgs s_show_deed, defBody s_show_deed, defScope s_show_deed, [], []⟩
abbrev s_Motion_need : Stmt := inClass (top 21) 0
abbrev N_Motion_need : List Str := ["self"]
theorem sc_Motion_need : FnScope N_Motion_need ["self"] (defScope s_Motion_need) := ⟨rfl, rfl, rfl, by decide +kernel, rfl, by decide +kernel, by decide +kernel⟩
abbrev d_Motion_need : He.DefD := ⟨("Motion", some "need"), "need", "Motion.need", defArgs s_Motion_need, defBody s_Motion_need, defScope s_Motion_need, [], []⟩
abbrev s_Matter_init : Stmt := inClass (top 23) 0
abbrev N_Matter_init : List Str := ["self", "text"]
theorem sc_Matter_init : FnScope N_Matter_init ["self", "text"] (defScope s_Matter_init) := ⟨rfl, rfl, rfl, by decide +kernel, rfl, by decide +kernel, by decide +kernel⟩
abbrev d_Matter_init : He.DefD := ⟨("Matter", some "__init__"), "__init__", "Matter.__init__", defArgs s_Matter_init, defBody s_Matter_init, defScope s_Matter_init, [], []⟩
abbrev s_Matter_kind : Stmt := inClass (top 23) 1
abbrev N_Matter_kind : List Str := ["self"]
theorem sc_Matter_kind : FnScope N_Matter_kind ["self"] (defScope s_Matter_kind) := ⟨rfl, rfl, rfl, by decide +kernel, rfl, by decide +kernel, by decide +kernel⟩
abbrev d_Matter_kind : He.DefD := ⟨("Matter", some "kind"), "kind", "Matter.kind", defArgs s_Matter_kind, defBody s_Matter_kind, defScope s_Matter_kind, [], []⟩
abbrev s_Matter_rank : Stmt := inClass (top 23) 2
abbrev N_Matter_rank : List Str := ["self"]
theorem sc_Matter_rank : FnScope N_Matter_rank ["self"] (defScope s_Matter_rank) := ⟨rfl, rfl, rfl, by decide +kernel, rfl, by decide +kernel, by decide +kernel⟩
abbrev d_Matter_rank : He.DefD := ⟨("Matter", some "rank"), "rank", "Matter.rank", defArgs s_Matter_rank, defBody s_Matter_rank, defScope s_Matter_rank, [], []⟩
abbrev s_Matter_told : Stmt := inClass (top 23) 3
abbrev N_Matter_told : List Str := ["self"]
theorem sc_Matter_told : FnScope N_Matter_told ["self"] (defScope s_Matter_told) := ⟨rfl, rfl, rfl, by decide +kernel, rfl, by decide +kernel, by decide +kernel⟩
abbrev d_Matter_told : He.DefD := ⟨("Matter", some "told"), "told", "Matter.told", defArgs s_Matter_told, defBody s_Matter_told, defScope s_Matter_told, [], []⟩
abbrev s_Change_init : Stmt := inClass (top 24) 0
abbrev N_Change_init : List Str := ["self", "edit"]
theorem sc_Change_init : FnScope N_Change_init ["self", "edit"] (defScope s_Change_init) := ⟨rfl, rfl, rfl, by decide +kernel, rfl, by decide +kernel, by decide +kernel⟩
abbrev d_Change_init : He.DefD := ⟨("Change", some "__init__"), "__init__", "Change.__init__", defArgs s_Change_init, defBody s_Change_init, defScope s_Change_init, [], []⟩
abbrev s_Change_kind : Stmt := inClass (top 24) 1
abbrev N_Change_kind : List Str := ["self"]
theorem sc_Change_kind : FnScope N_Change_kind ["self"] (defScope s_Change_kind) := ⟨rfl, rfl, rfl, by decide +kernel, rfl, by decide +kernel, by decide +kernel⟩
abbrev d_Change_kind : He.DefD := ⟨("Change", some "kind"), "kind", "Change.kind", defArgs s_Change_kind, defBody s_Change_kind, defScope s_Change_kind, [], []⟩
abbrev s_Change_rank : Stmt := inClass (top 24) 2
abbrev N_Change_rank : List Str := ["self"]
theorem sc_Change_rank : FnScope N_Change_rank ["self"] (defScope s_Change_rank) := ⟨rfl, rfl, rfl, by decide +kernel, rfl, by decide +kernel, by decide +kernel⟩
abbrev d_Change_rank : He.DefD := ⟨("Change", some "rank"), "rank", "Change.rank", defArgs s_Change_rank, defBody s_Change_rank, defScope s_Change_rank, [], []⟩
abbrev s_Change_told : Stmt := inClass (top 24) 3
abbrev N_Change_told : List Str := ["self"]
theorem sc_Change_told : FnScope N_Change_told ["self"] (defScope s_Change_told) := ⟨rfl, rfl, rfl, by decide +kernel, rfl, by decide +kernel, by decide +kernel⟩
abbrev d_Change_told : He.DefD := ⟨("Change", some "told"), "told", "Change.told", defArgs s_Change_told, defBody s_Change_told, defScope s_Change_told, [], []⟩
abbrev s_Mend_init : Stmt := inClass (top 26) 0
abbrev N_Mend_init : List Str := ["self", "edit"]
theorem sc_Mend_init : FnScope N_Mend_init ["self", "edit"] (defScope s_Mend_init) := ⟨rfl, rfl, rfl, by decide +kernel, rfl, by decide +kernel, by decide +kernel⟩
abbrev d_Mend_init : He.DefD := ⟨("Mend", some "__init__"), "__init__", "Mend.__init__", defArgs s_Mend_init, defBody s_Mend_init, defScope s_Mend_init, [], []⟩
abbrev s_Mend_kind : Stmt := inClass (top 26) 1
abbrev N_Mend_kind : List Str := ["self"]
theorem sc_Mend_kind : FnScope N_Mend_kind ["self"] (defScope s_Mend_kind) := ⟨rfl, rfl, rfl, by decide +kernel, rfl, by decide +kernel, by decide +kernel⟩
abbrev d_Mend_kind : He.DefD := ⟨("Mend", some "kind"), "kind", "Mend.kind", defArgs s_Mend_kind, defBody s_Mend_kind, defScope s_Mend_kind, [], []⟩
abbrev s_Mend_rank : Stmt := inClass (top 26) 2
abbrev N_Mend_rank : List Str := ["self"]
theorem sc_Mend_rank : FnScope N_Mend_rank ["self"] (defScope s_Mend_rank) := ⟨rfl, rfl, rfl, by decide +kernel, rfl, by decide +kernel, by decide +kernel⟩
abbrev d_Mend_rank : He.DefD := ⟨("Mend", some "rank"), "rank", "Mend.rank", defArgs s_Mend_rank, defBody s_Mend_rank, defScope s_Mend_rank, [], []⟩
abbrev s_Mend_told : Stmt := inClass (top 26) 3
abbrev N_Mend_told : List Str := ["self"]
theorem sc_Mend_told : FnScope N_Mend_told ["self"] (defScope s_Mend_told) := ⟨rfl, rfl, rfl, by decide +kernel, rfl, by decide +kernel, by decide +kernel⟩
abbrev d_Mend_told : He.DefD := ⟨("Mend", some "told"), "told", "Mend.told", defArgs s_Mend_told, defBody s_Mend_told, defScope s_Mend_told, [], []⟩
abbrev s_PutOff_init : Stmt := inClass (top 27) 0
abbrev N_PutOff_init : List Str := ["self", "sitting"]
theorem sc_PutOff_init : FnScope N_PutOff_init ["self", "sitting"] (defScope s_PutOff_init) := ⟨rfl, rfl, rfl, by decide +kernel, rfl, by decide +kernel, by decide +kernel⟩
abbrev d_PutOff_init : He.DefD := ⟨("PutOff", some "__init__"), "__init__", "PutOff.__init__", defArgs s_PutOff_init, defBody s_PutOff_init, defScope s_PutOff_init, [], []⟩
abbrev s_PutOff_kind : Stmt := inClass (top 27) 1
abbrev N_PutOff_kind : List Str := ["self"]
theorem sc_PutOff_kind : FnScope N_PutOff_kind ["self"] (defScope s_PutOff_kind) := ⟨rfl, rfl, rfl, by decide +kernel, rfl, by decide +kernel, by decide +kernel⟩
abbrev d_PutOff_kind : He.DefD := ⟨("PutOff", some "kind"), "kind", "PutOff.kind", defArgs s_PutOff_kind, defBody s_PutOff_kind, defScope s_PutOff_kind, [], []⟩
abbrev s_PutOff_rank : Stmt := inClass (top 27) 2
abbrev N_PutOff_rank : List Str := ["self"]
theorem sc_PutOff_rank : FnScope N_PutOff_rank ["self"] (defScope s_PutOff_rank) := ⟨rfl, rfl, rfl, by decide +kernel, rfl, by decide +kernel, by decide +kernel⟩
abbrev d_PutOff_rank : He.DefD := ⟨("PutOff", some "rank"), "rank", "PutOff.rank", defArgs s_PutOff_rank, defBody s_PutOff_rank, defScope s_PutOff_rank, [], []⟩
abbrev s_PutOff_told : Stmt := inClass (top 27) 3
abbrev N_PutOff_told : List Str := ["self"]
theorem sc_PutOff_told : FnScope N_PutOff_told ["self"] (defScope s_PutOff_told) := ⟨rfl, rfl, rfl, by decide +kernel, rfl, by decide +kernel, by decide +kernel⟩
abbrev d_PutOff_told : He.DefD := ⟨("PutOff", some "told"), "told", "PutOff.told", defArgs s_PutOff_told, defBody s_PutOff_told, defScope s_PutOff_told, [], []⟩
abbrev s_Close_kind : Stmt := inClass (top 28) 0
abbrev N_Close_kind : List Str := ["self"]
theorem sc_Close_kind : FnScope N_Close_kind ["self"] (defScope s_Close_kind) := ⟨rfl, rfl, rfl, by decide +kernel, rfl, by decide +kernel, by decide +kernel⟩
abbrev d_Close_kind : He.DefD := ⟨("Close", some "kind"), "kind", "Close.kind", defArgs s_Close_kind, defBody s_Close_kind, defScope s_Close_kind, [], []⟩
abbrev s_Close_rank : Stmt := inClass (top 28) 1
abbrev N_Close_rank : List Str := ["self"]
theorem sc_Close_rank : FnScope N_Close_rank ["self"] (defScope s_Close_rank) := ⟨rfl, rfl, rfl, by decide +kernel, rfl, by decide +kernel, by decide +kernel⟩
abbrev d_Close_rank : He.DefD := ⟨("Close", some "rank"), "rank", "Close.rank", defArgs s_Close_rank, defBody s_Close_rank, defScope s_Close_rank, [], []⟩
abbrev s_Close_need : Stmt := inClass (top 28) 2
abbrev N_Close_need : List Str := ["self"]
theorem sc_Close_need : FnScope N_Close_need ["self"] (defScope s_Close_need) := ⟨rfl, rfl, rfl, by decide +kernel, rfl, by decide +kernel, by decide +kernel⟩
abbrev d_Close_need : He.DefD := ⟨("Close", some "need"), "need", "Close.need", defArgs s_Close_need, defBody s_Close_need, defScope s_Close_need, [], []⟩
abbrev s_Close_told : Stmt := inClass (top 28) 3
abbrev N_Close_told : List Str := ["self"]
theorem sc_Close_told : FnScope N_Close_told ["self"] (defScope s_Close_told) := ⟨rfl, rfl, rfl, by decide +kernel, rfl, by decide +kernel, by decide +kernel⟩
abbrev d_Close_told : He.DefD := ⟨("Close", some "told"), "told", "Close.told", defArgs s_Close_told, defBody s_Close_told, defScope s_Close_told, [], []⟩
abbrev s_Lay_kind : Stmt := inClass (top 29) 0
abbrev N_Lay_kind : List Str := ["self"]
theorem sc_Lay_kind : FnScope N_Lay_kind ["self"] (defScope s_Lay_kind) := ⟨rfl, rfl, rfl, by decide +kernel, rfl, by decide +kernel, by decide +kernel⟩
abbrev d_Lay_kind : He.DefD := ⟨("Lay", some "kind"), "kind", "Lay.kind", defArgs s_Lay_kind, defBody s_Lay_kind, defScope s_Lay_kind, [], []⟩
abbrev s_Lay_rank : Stmt := inClass (top 29) 1
abbrev N_Lay_rank : List Str := ["self"]
theorem sc_Lay_rank : FnScope N_Lay_rank ["self"] (defScope s_Lay_rank) := ⟨rfl, rfl, rfl, by decide +kernel, rfl, by decide +kernel, by decide +kernel⟩
abbrev d_Lay_rank : He.DefD := ⟨("Lay", some "rank"), "rank", "Lay.rank", defArgs s_Lay_rank, defBody s_Lay_rank, defScope s_Lay_rank, [], []⟩
abbrev s_Lay_told : Stmt := inClass (top 29) 2
abbrev N_Lay_told : List Str := ["self"]
theorem sc_Lay_told : FnScope N_Lay_told ["self"] (defScope s_Lay_told) := ⟨rfl, rfl, rfl, by decide +kernel, rfl, by decide +kernel, by decide +kernel⟩
abbrev d_Lay_told : He.DefD := ⟨("Lay", some "told"), "told", "Lay.told", defArgs s_Lay_told, defBody s_Lay_told, defScope s_Lay_told, [], []⟩
abbrev s_Rest_kind : Stmt := inClass (top 30) 0
abbrev N_Rest_kind : List Str := ["self"]
theorem sc_Rest_kind : FnScope N_Rest_kind ["self"] (defScope s_Rest_kind) := ⟨rfl, rfl, rfl, by decide +kernel, rfl, by decide +kernel, by decide +kernel⟩
abbrev d_Rest_kind : He.DefD := ⟨("Rest", some "kind"), "kind", "Rest.kind", defArgs s_Rest_kind, defBody s_Rest_kind, defScope s_Rest_kind, [], []⟩
abbrev s_Rest_rank : Stmt := inClass (top 30) 1
abbrev N_Rest_rank : List Str := ["self"]
theorem sc_Rest_rank : FnScope N_Rest_rank ["self"] (defScope s_Rest_rank) := ⟨rfl, rfl, rfl, by decide +kernel, rfl, by decide +kernel, by decide +kernel⟩
abbrev d_Rest_rank : He.DefD := ⟨("Rest", some "rank"), "rank", "Rest.rank", defArgs s_Rest_rank, defBody s_Rest_rank, defScope s_Rest_rank, [], []⟩
abbrev s_Rest_told : Stmt := inClass (top 30) 2
abbrev N_Rest_told : List Str := ["self"]
theorem sc_Rest_told : FnScope N_Rest_told ["self"] (defScope s_Rest_told) := ⟨rfl, rfl, rfl, by decide +kernel, rfl, by decide +kernel, by decide +kernel⟩
abbrev d_Rest_told : He.DefD := ⟨("Rest", some "told"), "told", "Rest.told", defArgs s_Rest_told, defBody s_Rest_told, defScope s_Rest_told, [], []⟩
abbrev s_Point_init : Stmt := inClass (top 31) 0
abbrev N_Point_init : List Str := ["self", "clause"]
theorem sc_Point_init : FnScope N_Point_init ["self", "clause"] (defScope s_Point_init) := ⟨rfl, rfl, rfl, by decide +kernel, rfl, by decide +kernel, by decide +kernel⟩
abbrev d_Point_init : He.DefD := ⟨("Point", some "__init__"), "__init__", "Point.__init__", defArgs s_Point_init, defBody s_Point_init, defScope s_Point_init, [], []⟩
abbrev s_Point_kind : Stmt := inClass (top 31) 1
abbrev N_Point_kind : List Str := ["self"]
theorem sc_Point_kind : FnScope N_Point_kind ["self"] (defScope s_Point_kind) := ⟨rfl, rfl, rfl, by decide +kernel, rfl, by decide +kernel, by decide +kernel⟩
abbrev d_Point_kind : He.DefD := ⟨("Point", some "kind"), "kind", "Point.kind", defArgs s_Point_kind, defBody s_Point_kind, defScope s_Point_kind, [], []⟩
abbrev s_Point_rank : Stmt := inClass (top 31) 2
abbrev N_Point_rank : List Str := ["self"]
theorem sc_Point_rank : FnScope N_Point_rank ["self"] (defScope s_Point_rank) := ⟨rfl, rfl, rfl, by decide +kernel, rfl, by decide +kernel, by decide +kernel⟩
abbrev d_Point_rank : He.DefD := ⟨("Point", some "rank"), "rank", "Point.rank", defArgs s_Point_rank, defBody s_Point_rank, defScope s_Point_rank, [], []⟩
abbrev s_Point_told : Stmt := inClass (top 31) 3
abbrev N_Point_told : List Str := ["self"]
theorem sc_Point_told : FnScope N_Point_told ["self"] (defScope s_Point_told) := ⟨rfl, rfl, rfl, by decide +kernel, rfl, by decide +kernel, by decide +kernel⟩
abbrev d_Point_told : He.DefD := ⟨("Point", some "told"), "told", "Point.told", defArgs s_Point_told, defBody s_Point_told, defScope s_Point_told, [], []⟩
abbrev s_motion_of : Stmt := top 32
abbrev N_motion_of : List Str := ["told", "word"]
theorem sc_motion_of : FnScope N_motion_of ["told"] (defScope s_motion_of) := ⟨rfl, rfl, rfl, by decide +kernel, rfl, by decide +kernel, by decide +kernel⟩
abbrev d_motion_of : He.DefD := ⟨("motion_of", none), "motion_of", "motion_of", defArgs s_motion_of, defBody s_motion_of, defScope s_motion_of, [], []⟩
abbrev s_bar_of : Stmt := top 34
abbrev N_bar_of : List Str := ["pile", "closed", "bar"]
theorem sc_bar_of : FnScope N_bar_of ["pile", "closed"] (defScope s_bar_of) := ⟨rfl, rfl, rfl, by decide +kernel, rfl, by decide +kernel, by decide +kernel⟩
abbrev d_bar_of : He.DefD := ⟨("bar_of", none), "bar_of", "bar_of", defArgs s_bar_of, defBody s_bar_of, defScope s_bar_of, [], []⟩
abbrev s_is_mendable : Stmt := top 25
abbrev N_is_mendable : List Str := ["motion"]
theorem sc_is_mendable : FnScope N_is_mendable ["motion"] (defScope s_is_mendable) := ⟨rfl, rfl, rfl, by decide +kernel, rfl, by decide +kernel, by decide +kernel⟩
abbrev d_is_mendable : He.DefD := ⟨("is_mendable", none), "is_mendable", "is_mendable", defArgs s_is_mendable, defBody s_is_mendable, defScope s_is_mendable, [], []⟩
abbrev s_is_kept : Stmt := top 40
abbrev N_is_kept : List Str := ["need", "ayes", "noes"]
theorem sc_is_kept : FnScope N_is_kept ["need", "ayes", "noes"] (defScope s_is_kept) := ⟨rfl, rfl, rfl, by decide +kernel, rfl, by decide +kernel, by decide +kernel⟩
abbrev d_is_kept : He.DefD := ⟨("is_kept", none), "is_kept", "is_kept", defArgs s_is_kept, defBody s_is_kept, defScope s_is_kept, [], []⟩
abbrev s_Chamber_on_pile : Stmt := inClass (top 42) 1
abbrev N_Chamber_on_pile : List Str := ["self", "number"]
theorem sc_Chamber_on_pile : FnScope N_Chamber_on_pile ["self"] (defScope s_Chamber_on_pile) := ⟨rfl, rfl, rfl, by decide +kernel, rfl, by decide +kernel, by decide +kernel⟩
abbrev d_Chamber_on_pile : He.DefD := ⟨("Chamber", some "on_pile"), "on_pile", "Chamber.on_pile", defArgs s_Chamber_on_pile, defBody s_Chamber_on_pile, defScope s_Chamber_on_pile, [], []⟩
abbrev s_Chamber_bar_now : Stmt := inClass (top 42) 2
abbrev N_Chamber_bar_now : List Str := ["self"]
theorem sc_Chamber_bar_now : FnScope N_Chamber_bar_now ["self"] (defScope s_Chamber_bar_now) := ⟨rfl, rfl, rfl, by decide +kernel, rfl, by decide +kernel, by decide +kernel⟩
abbrev d_Chamber_bar_now : He.DefD := ⟨("Chamber", some "bar_now"), "bar_now", "Chamber.bar_now", defArgs s_Chamber_bar_now, defBody s_Chamber_bar_now, defScope s_Chamber_bar_now, [], []⟩
abbrev s_Chamber_top : Stmt := inClass (top 42) 3
abbrev N_Chamber_top : List Str := ["self"]
theorem sc_Chamber_top : FnScope N_Chamber_top ["self"] (defScope s_Chamber_top) := ⟨rfl, rfl, rfl, by decide +kernel, rfl, by decide +kernel, by decide +kernel⟩
abbrev d_Chamber_top : He.DefD := ⟨("Chamber", some "top"), "top", "Chamber.top", defArgs s_Chamber_top, defBody s_Chamber_top, defScope s_Chamber_top, [], []⟩
abbrev s_Chamber_matter : Stmt := inClass (top 42) 4
abbrev N_Chamber_matter : List Str := ["self", "motion"]
theorem sc_Chamber_matter : FnScope N_Chamber_matter ["self"] (defScope s_Chamber_matter) := ⟨rfl, rfl, rfl, by decide +kernel, rfl, by decide +kernel, by decide +kernel⟩
abbrev d_Chamber_matter : He.DefD := ⟨("Chamber", some "matter"), "matter", "Chamber.matter", defArgs s_Chamber_matter, defBody s_Chamber_matter, defScope s_Chamber_matter, [], []⟩
abbrev s_need_matter : Stmt := top 22
abbrev N_need_matter : List Str := ["house", "matter"]
theorem sc_need_matter : FnScope N_need_matter ["house"] (defScope s_need_matter) := ⟨rfl, rfl, rfl, by decide +kernel, rfl, by decide +kernel, by decide +kernel⟩
abbrev d_need_matter : He.DefD := ⟨("need_matter", none), "need_matter", "need_matter", defArgs s_need_matter, defBody s_need_matter, defScope s_need_matter, [], []⟩
abbrev s_Motion_check : Stmt := inClass (top 21) 1
abbrev N_Motion_check : List Str := ["self", "house"]
theorem sc_Motion_check : FnScope N_Motion_check ["self", "house"] (defScope s_Motion_check) := ⟨rfl, rfl, rfl, by decide +kernel, rfl, by decide +kernel, by decide +kernel⟩
abbrev d_Motion_check : He.DefD := ⟨("Motion", some "check"), "check", "Motion.check", defArgs s_Motion_check, defBody s_Motion_check, defScope s_Motion_check, [], []⟩
abbrev s_Motion_keep : Stmt := inClass (top 21) 2
abbrev N_Motion_keep : List Str := ["self", "house"]
theorem sc_Motion_keep : FnScope N_Motion_keep ["self", "house"] (defScope s_Motion_keep) := ⟨rfl, rfl, rfl, by decide +kernel, rfl, by decide +kernel, by decide +kernel⟩
abbrev d_Motion_keep : He.DefD := ⟨("Motion", some "keep"), "keep", "Motion.keep", defArgs s_Motion_keep, defBody s_Motion_keep, defScope s_Motion_keep, [], []⟩
abbrev s_Change_check : Stmt := inClass (top 24) 4
abbrev N_Change_check : List Str := ["self", "house"]
theorem sc_Change_check : FnScope N_Change_check ["self", "house"] (defScope s_Change_check) := ⟨rfl, rfl, rfl, by decide +kernel, rfl, by decide +kernel, by decide +kernel⟩
abbrev d_Change_check : He.DefD := ⟨("Change", some "check"), "check", "Change.check", defArgs s_Change_check, defBody s_Change_check, defScope s_Change_check, [], []⟩
abbrev s_NotLater_init : Stmt := inClass (top 7) 0
abbrev N_NotLater_init : List Str := ["self", "sitting"]
theorem sc_NotLater_init : FnScope N_NotLater_init ["self", "sitting"] (defScope s_NotLater_init) := ⟨rfl, rfl, rfl, by decide +kernel, rfl, by decide +kernel, by decide +kernel⟩
abbrev d_NotLater_init : He.DefD := ⟨("NotLater", some "__init__"), "__init__", "NotLater.__init__", defArgs s_NotLater_init, defBody s_NotLater_init, defScope s_NotLater_init, [], []⟩
abbrev s_PutOff_check : Stmt := inClass (top 27) 4
abbrev N_PutOff_check : List Str := ["self", "house"]
theorem sc_PutOff_check : FnScope N_PutOff_check ["self", "house"] (defScope s_PutOff_check) := ⟨rfl, rfl, rfl, by decide +kernel, rfl, by decide +kernel, by decide +kernel⟩
abbrev d_PutOff_check : He.DefD := ⟨("PutOff", some "check"), "check", "PutOff.check", defArgs s_PutOff_check, defBody s_PutOff_check, defScope s_PutOff_check, [], []⟩
abbrev s_Close_check : Stmt := inClass (top 28) 4
abbrev N_Close_check : List Str := ["self", "house"]
theorem sc_Close_check : FnScope N_Close_check ["self", "house"] (defScope s_Close_check) := ⟨rfl, rfl, rfl, by decide +kernel, rfl, by decide +kernel, by decide +kernel⟩
abbrev d_Close_check : He.DefD := ⟨("Close", some "check"), "check", "Close.check", defArgs s_Close_check, defBody s_Close_check, defScope s_Close_check, [], []⟩
abbrev s_Lay_check : Stmt := inClass (top 29) 3
abbrev N_Lay_check : List Str := ["self", "house"]
theorem sc_Lay_check : FnScope N_Lay_check ["self", "house"] (defScope s_Lay_check) := ⟨rfl, rfl, rfl, by decide +kernel, rfl, by decide +kernel, by decide +kernel⟩
abbrev d_Lay_check : He.DefD := ⟨("Lay", some "check"), "check", "Lay.check", defArgs s_Lay_check, defBody s_Lay_check, defScope s_Lay_check, [], []⟩
abbrev s_Mend_check : Stmt := inClass (top 26) 4
abbrev N_Mend_check : List Str := ["self", "house", "top"]
theorem sc_Mend_check : FnScope N_Mend_check ["self", "house"] (defScope s_Mend_check) := ⟨rfl, rfl, rfl, by decide +kernel, rfl, by decide +kernel, by decide +kernel⟩
abbrev d_Mend_check : He.DefD := ⟨("Mend", some "check"), "check", "Mend.check", defArgs s_Mend_check, defBody s_Mend_check, defScope s_Mend_check, [], []⟩
abbrev s_Chamber_close : Stmt := inClass (top 42) 5
abbrev N_Chamber_close : List Str := ["self"]
theorem sc_Chamber_close : FnScope N_Chamber_close ["self"] (defScope s_Chamber_close) := ⟨rfl, rfl, rfl, by decide +kernel, rfl, by decide +kernel, by decide +kernel⟩
abbrev d_Chamber_close : He.DefD := ⟨("Chamber", some "close"), "close", "Chamber.close", defArgs s_Chamber_close, defBody s_Chamber_close, defScope s_Chamber_close, [], []⟩
abbrev s_Chamber_next_sitting : Stmt := inClass (top 42) 6
abbrev N_Chamber_next_sitting : List Str := ["self"]
theorem sc_Chamber_next_sitting : FnScope N_Chamber_next_sitting ["self"] (defScope s_Chamber_next_sitting) := ⟨rfl, rfl, rfl, by decide +kernel, rfl, by decide +kernel, by decide +kernel⟩
abbrev d_Chamber_next_sitting : He.DefD := ⟨("Chamber", some "next_sitting"), "next_sitting", "Chamber.next_sitting", defArgs s_Chamber_next_sitting, defBody s_Chamber_next_sitting, defScope s_Chamber_next_sitting, [], []⟩
abbrev s_Chamber_note : Stmt := inClass (top 42) 8
abbrev N_Chamber_note : List Str := ["self", "deed"]
theorem sc_Chamber_note : FnScope N_Chamber_note ["self", "deed"] (defScope s_Chamber_note) := ⟨rfl, rfl, rfl, by decide +kernel, rfl, by decide +kernel, by decide +kernel⟩
abbrev d_Chamber_note : He.DefD := ⟨("Chamber", some "note"), "note", "Chamber.note", defArgs s_Chamber_note, defBody s_Chamber_note, defScope s_Chamber_note, [], []⟩
abbrev s_Chamber_ended : Stmt := inClass (top 42) 9
abbrev N_Chamber_ended : List Str := ["self", "word", "number"]
theorem sc_Chamber_ended : FnScope N_Chamber_ended ["self", "word"] (defScope s_Chamber_ended) := ⟨rfl, rfl, rfl, by decide +kernel, rfl, by decide +kernel, by decide +kernel⟩
abbrev d_Chamber_ended : He.DefD := ⟨("Chamber", some "ended"), "ended", "Chamber.ended", defArgs s_Chamber_ended, defBody s_Chamber_ended, defScope s_Chamber_ended, [], []⟩
abbrev s_Chamber_set_aside : Stmt := inClass (top 42) 7
abbrev N_Chamber_set_aside : List Str := ["self", "until"]
theorem sc_Chamber_set_aside : FnScope N_Chamber_set_aside ["self", "until"] (defScope s_Chamber_set_aside) := ⟨rfl, rfl, rfl, by decide +kernel, rfl, by decide +kernel, by decide +kernel⟩
abbrev d_Chamber_set_aside : He.DefD := ⟨("Chamber", some "set_aside"), "set_aside", "Chamber.set_aside", defArgs s_Chamber_set_aside, defBody s_Chamber_set_aside, defScope s_Chamber_set_aside, [], []⟩
abbrev s_Matter_lay : Stmt := inClass (top 23) 4
abbrev N_Matter_lay : List Str := ["self", "edit"]
theorem sc_Matter_lay : FnScope N_Matter_lay ["self", "edit"] (defScope s_Matter_lay) := ⟨rfl, rfl, rfl, by decide +kernel, rfl, by decide +kernel, by decide +kernel⟩
abbrev d_Matter_lay : He.DefD := ⟨("Matter", some "lay"), "lay", "Matter.lay", defArgs s_Matter_lay, defBody s_Matter_lay, defScope s_Matter_lay, [], []⟩
abbrev s_Change_mend : Stmt := inClass (top 24) 6
abbrev N_Change_mend : List Str := ["self", "edit", "words"]
theorem sc_Change_mend : FnScope N_Change_mend ["self", "edit"] (defScope s_Change_mend) := ⟨rfl, rfl, rfl, by decide +kernel, rfl, by decide +kernel, by decide +kernel⟩
abbrev d_Change_mend : He.DefD := ⟨("Change", some "mend"), "mend", "Change.mend", defArgs s_Change_mend, defBody s_Change_mend, defScope s_Change_mend, [], []⟩
abbrev s_Change_keep : Stmt := inClass (top 24) 5
abbrev N_Change_keep : List Str := ["self", "house"]
theorem sc_Change_keep : FnScope N_Change_keep ["self", "house"] (defScope s_Change_keep) := ⟨rfl, rfl, rfl, by decide +kernel, rfl, by decide +kernel, by decide +kernel⟩
abbrev d_Change_keep : He.DefD := ⟨("Change", some "keep"), "keep", "Change.keep", defArgs s_Change_keep, defBody s_Change_keep, defScope s_Change_keep, [], []⟩
abbrev s_Mend_keep : Stmt := inClass (top 26) 5
abbrev N_Mend_keep : List Str := ["self", "house"]
theorem sc_Mend_keep : FnScope N_Mend_keep ["self", "house"] (defScope s_Mend_keep) := ⟨rfl, rfl, rfl, by decide +kernel, rfl, by decide +kernel, by decide +kernel⟩
abbrev d_Mend_keep : He.DefD := ⟨("Mend", some "keep"), "keep", "Mend.keep", defArgs s_Mend_keep, defBody s_Mend_keep, defScope s_Mend_keep, [], []⟩
abbrev s_PutOff_keep : Stmt := inClass (top 27) 5
abbrev N_PutOff_keep : List Str := ["self", "house"]
theorem sc_PutOff_keep : FnScope N_PutOff_keep ["self", "house"] (defScope s_PutOff_keep) := ⟨rfl, rfl, rfl, by decide +kernel, rfl, by decide +kernel, by decide +kernel⟩
abbrev d_PutOff_keep : He.DefD := ⟨("PutOff", some "keep"), "keep", "PutOff.keep", defArgs s_PutOff_keep, defBody s_PutOff_keep, defScope s_PutOff_keep, [], []⟩
abbrev s_Close_keep : Stmt := inClass (top 28) 5
abbrev N_Close_keep : List Str := ["self", "house"]
theorem sc_Close_keep : FnScope N_Close_keep ["self", "house"] (defScope s_Close_keep) := ⟨rfl, rfl, rfl, by decide +kernel, rfl, by decide +kernel, by decide +kernel⟩
abbrev d_Close_keep : He.DefD := ⟨("Close", some "keep"), "keep", "Close.keep", defArgs s_Close_keep, defBody s_Close_keep, defScope s_Close_keep, [], []⟩
abbrev s_Lay_keep : Stmt := inClass (top 29) 4
abbrev N_Lay_keep : List Str := ["self", "house"]
theorem sc_Lay_keep : FnScope N_Lay_keep ["self", "house"] (defScope s_Lay_keep) := ⟨rfl, rfl, rfl, by decide +kernel, rfl, by decide +kernel, by decide +kernel⟩
abbrev d_Lay_keep : He.DefD := ⟨("Lay", some "keep"), "keep", "Lay.keep", defArgs s_Lay_keep, defBody s_Lay_keep, defScope s_Lay_keep, [], []⟩
abbrev s_Rest_keep : Stmt := inClass (top 30) 3
abbrev N_Rest_keep : List Str := ["self", "house"]
theorem sc_Rest_keep : FnScope N_Rest_keep ["self", "house"] (defScope s_Rest_keep) := ⟨rfl, rfl, rfl, by decide +kernel, rfl, by decide +kernel, by decide +kernel⟩
abbrev d_Rest_keep : He.DefD := ⟨("Rest", some "keep"), "keep", "Rest.keep", defArgs s_Rest_keep, defBody s_Rest_keep, defScope s_Rest_keep, [], []⟩
abbrev s_Barred_init : Stmt := inClass (top 4) 0
abbrev N_Barred_init : List Str := ["self", "bar"]
theorem sc_Barred_init : FnScope N_Barred_init ["self", "bar"] (defScope s_Barred_init) := ⟨rfl, rfl, rfl, by decide +kernel, rfl, by decide +kernel, by decide +kernel⟩
abbrev d_Barred_init : He.DefD := ⟨("Barred", some "__init__"), "__init__", "Barred.__init__", defArgs s_Barred_init, defBody s_Barred_init, defScope s_Barred_init, [], []⟩
abbrev s_NotYet_init : Stmt := inClass (top 11) 0
abbrev N_NotYet_init : List Str := ["self", "sitting"]
theorem sc_NotYet_init : FnScope N_NotYet_init ["self", "sitting"] (defScope s_NotYet_init) := ⟨rfl, rfl, rfl, by decide +kernel, rfl, by decide +kernel, by decide +kernel⟩
abbrev d_NotYet_init : He.DefD := ⟨("NotYet", some "__init__"), "__init__", "NotYet.__init__", defArgs s_NotYet_init, defBody s_NotYet_init, defScope s_NotYet_init, [], []⟩
abbrev s_Chamber_move : Stmt := inClass (top 42) 10
abbrev N_Chamber_move : List Str := ["self", "told", "motion"]
theorem sc_Chamber_move : FnScope N_Chamber_move ["self", "told"] (defScope s_Chamber_move) := ⟨rfl, rfl, rfl, by decide +kernel, rfl, by decide +kernel, by decide +kernel⟩
abbrev d_Chamber_move : He.DefD := ⟨("Chamber", some "move"), "move", "Chamber.move", defArgs s_Chamber_move, defBody s_Chamber_move, defScope s_Chamber_move, [], []⟩
abbrev s_Chamber_drop : Stmt := inClass (top 42) 12
abbrev N_Chamber_drop : List Str := ["self"]
theorem sc_Chamber_drop : FnScope N_Chamber_drop ["self"] (defScope s_Chamber_drop) := ⟨rfl, rfl, rfl, by decide +kernel, rfl, by decide +kernel, by decide +kernel⟩
abbrev d_Chamber_drop : He.DefD := ⟨("Chamber", some "drop"), "drop", "Chamber.drop", defArgs s_Chamber_drop, defBody s_Chamber_drop, defScope s_Chamber_drop, [], []⟩
abbrev s_Chamber_vote : Stmt := inClass (top 42) 11
abbrev N_Chamber_vote : List Str := ["self", "ayes", "noes", "word", "motion"]
theorem sc_Chamber_vote : FnScope N_Chamber_vote ["self", "ayes", "noes"] (defScope s_Chamber_vote) := ⟨rfl, rfl, rfl, by decide +kernel, rfl, by decide +kernel, by decide +kernel⟩
abbrev d_Chamber_vote : He.DefD := ⟨("Chamber", some "vote"), "vote", "Chamber.vote", defArgs s_Chamber_vote, defBody s_Chamber_vote, defScope s_Chamber_vote, [], []⟩
abbrev s_Chamber_take : Stmt := inClass (top 42) 13
abbrev N_Chamber_take : List Str := ["self", "number", "until", "pile"]
theorem sc_Chamber_take : FnScope N_Chamber_take ["self", "number"] (defScope s_Chamber_take) := ⟨rfl, rfl, rfl, by decide +kernel, rfl, by decide +kernel, by decide +kernel⟩
abbrev d_Chamber_take : He.DefD := ⟨("Chamber", some "take"), "take", "Chamber.take", defArgs s_Chamber_take, defBody s_Chamber_take, defScope s_Chamber_take, [], []⟩
abbrev s_Chamber_motion : Stmt := inClass (top 42) 16
abbrev N_Chamber_motion : List Str := ["self", "number"]
theorem sc_Chamber_motion : FnScope N_Chamber_motion ["self", "number"] (defScope s_Chamber_motion) := ⟨rfl, rfl, rfl, by decide +kernel, rfl, by decide +kernel, by decide +kernel⟩
abbrev d_Chamber_motion : He.DefD := ⟨("Chamber", some "motion"), "motion", "Chamber.motion", defArgs s_Chamber_motion, defBody s_Chamber_motion, defScope s_Chamber_motion, [], []⟩
abbrev s_Chamber_state : Stmt := inClass (top 42) 15
abbrev N_Chamber_state : List Str := ["self", "aside", "number", "until", "pile"]
theorem sc_Chamber_state : FnScope N_Chamber_state ["self"] (defScope s_Chamber_state) := ⟨rfl, rfl, rfl, by decide +kernel, rfl, by decide +kernel, by decide +kernel⟩
abbrev d_Chamber_state : He.DefD := ⟨("Chamber", some "state"), "state", "Chamber.state", defArgs s_Chamber_state, defBody s_Chamber_state, defScope s_Chamber_state, [], []⟩
abbrev s_Chamber_init : Stmt := inClass (top 42) 0
abbrev N_Chamber_init : List Str := ["self", "seats"]
theorem sc_Chamber_init : FnScope N_Chamber_init ["self", "seats"] (defScope s_Chamber_init) := ⟨rfl, rfl, rfl, by decide +kernel, rfl, by decide +kernel, by decide +kernel⟩
abbrev d_Chamber_init : He.DefD := ⟨("Chamber", some "__init__"), "__init__", "Chamber.__init__", defArgs s_Chamber_init, defBody s_Chamber_init, defScope s_Chamber_init, [], []⟩
abbrev s_Chamber_matter_of : Stmt := inClass (top 42) 17
abbrev N_Chamber_matter_of : List Str := ["self", "number", "matter"]
theorem sc_Chamber_matter_of : FnScope N_Chamber_matter_of ["self", "number"] (defScope s_Chamber_matter_of) := ⟨rfl, rfl, rfl, by decide +kernel, rfl, by decide +kernel, by decide +kernel⟩
abbrev d_Chamber_matter_of : He.DefD := ⟨("Chamber", some "matter_of"), "matter_of", "Chamber.matter_of", defArgs s_Chamber_matter_of, defBody s_Chamber_matter_of, defScope s_Chamber_matter_of, [], []⟩
abbrev s_Chamber_kept_changes : Stmt := inClass (top 42) 18
abbrev N_Chamber_kept_changes : List Str := ["self", "number"]
theorem sc_Chamber_kept_changes : FnScope N_Chamber_kept_changes ["self", "number"] (defScope s_Chamber_kept_changes) := ⟨rfl, rfl, rfl, by decide +kernel, rfl, by decide +kernel, by decide +kernel⟩
abbrev d_Chamber_kept_changes : He.DefD := ⟨("Chamber", some "kept_changes"), "kept_changes", "Chamber.kept_changes", defArgs s_Chamber_kept_changes, defBody s_Chamber_kept_changes, defScope s_Chamber_kept_changes, [], []⟩
abbrev s_Chamber_first_text : Stmt := inClass (top 42) 19
abbrev N_Chamber_first_text : List Str := ["self", "number"]
theorem sc_Chamber_first_text : FnScope N_Chamber_first_text ["self", "number"] (defScope s_Chamber_first_text) := ⟨rfl, rfl, rfl, by decide +kernel, rfl, by decide +kernel, by decide +kernel⟩
abbrev d_Chamber_first_text : He.DefD := ⟨("Chamber", some "first_text"), "first_text", "Chamber.first_text", defArgs s_Chamber_first_text, defBody s_Chamber_first_text, defScope s_Chamber_first_text, [], []⟩
abbrev s_Chamber_minutes : Stmt := inClass (top 42) 20
abbrev N_Chamber_minutes : List Str := ["self"]
theorem sc_Chamber_minutes : FnScope N_Chamber_minutes ["self"] (defScope s_Chamber_minutes) := ⟨rfl, rfl, rfl, by decide +kernel, rfl, by decide +kernel, by decide +kernel⟩
abbrev d_Chamber_minutes : He.DefD := ⟨("Chamber", some "minutes"), "minutes", "Chamber.minutes", defArgs s_Chamber_minutes, defBody s_Chamber_minutes, defScope s_Chamber_minutes, [], []⟩
abbrev s_wcell_at : Stmt := top 44
abbrev N_wcell_at : List Str := ["_law_script", "_law_k"]
theorem sc_wcell_at : FnScope N_wcell_at ["_law_script", "_law_k"] (defScope s_wcell_at) := ⟨rfl, rfl, rfl, by decide +kernel, rfl, by decide +kernel, by decide +kernel⟩
abbrev d_wcell_at : He.DefD := ⟨("_law_cell_at", none), "_law_cell_at", "_law_cell_at", defArgs s_wcell_at, defBody s_wcell_at, defScope s_wcell_at, [], []⟩
abbrev s_wword : Stmt := top 45
abbrev N_wword : List Str := ["_law_cell", "_law_signs", "_law_word_here", "_law_k"]
theorem sc_wword : FnScope N_wword ["_law_cell"] (defScope s_wword) := ⟨rfl, rfl, rfl, by decide +kernel, rfl, by decide +kernel, by decide +kernel⟩
abbrev d_wword : He.DefD := ⟨("_law_word", none), "_law_word", "_law_word", defArgs s_wword, defBody s_wword, defScope s_wword, [], []⟩
abbrev s_wclause : Stmt := top 46
abbrev N_wclause : List Str := ["_law_cell", "_law_words", "_law_number", "_law_k"]
theorem sc_wclause : FnScope N_wclause ["_law_cell"] (defScope s_wclause) := ⟨rfl, rfl, rfl, by decide +kernel, rfl, by decide +kernel, by decide +kernel⟩
abbrev d_wclause : He.DefD := ⟨("_law_clause", none), "_law_clause", "_law_clause", defArgs s_wclause, defBody s_wclause, defScope s_wclause, [], []⟩
abbrev s_wdo : Stmt := top 48
abbrev N_wdo : List Str := ["_law_chamber", "_law_deed"]
theorem sc_wdo : FnScope N_wdo ["_law_chamber", "_law_deed"] (defScope s_wdo) := ⟨rfl, rfl, rfl, by decide +kernel, rfl, by decide +kernel, by decide +kernel⟩
abbrev d_wdo : He.DefD := ⟨("_law_do", none), "_law_do", "_law_do", defArgs s_wdo, defBody s_wdo, defScope s_wdo, [], []⟩
abbrev s_wcases : Stmt := top 49
abbrev N_wcases : List Str := ["_law_script", "_law_one", "_law_text", "_law_big", "_law_matter", "_law_put", "_law_cut", "_law_word_here", "_law_cases_here", "_law_size", "_law_aside", "_law_sign"]
theorem sc_wcases : FnScope N_wcases ["_law_script"] (defScope s_wcases) := ⟨rfl, rfl, rfl, by decide +kernel, rfl, by decide +kernel, by decide +kernel⟩
abbrev d_wcases : He.DefD := ⟨("_law_cases", none), "_law_cases", "_law_cases", defArgs s_wcases, defBody s_wcases, defScope s_wcases, [], []⟩
abbrev s_wtold : Stmt := top 50
abbrev N_wtold : List Str := ["_law_e"]
theorem sc_wtold : FnScope N_wtold ["_law_e"] (defScope s_wtold) := ⟨rfl, rfl, rfl, by decide +kernel, rfl, by decide +kernel, by decide +kernel⟩
abbrev d_wtold : He.DefD := ⟨("_law_told", none), "_law_told", "_law_told", defArgs s_wtold, defBody s_wtold, defScope s_wtold, [], []⟩
abbrev s_wmany : Stmt := top 51
abbrev N_wmany : List Str := ["_law_e", "_law_some", "_law_one"]
theorem sc_wmany : FnScope N_wmany ["_law_e"] (defScope s_wmany) := ⟨rfl, rfl, rfl, by decide +kernel, rfl, by decide +kernel, by decide +kernel⟩
abbrev d_wmany : He.DefD := ⟨("_law_many", none), "_law_many", "_law_many", defArgs s_wmany, defBody s_wmany, defScope s_wmany, [], []⟩
abbrev s_law : Stmt := top 52
abbrev N_law : List Str := ["_law_script", "_law_cases_here", "_law_ahead", "_law_deed", "_law_due", "_law_chamber", "_law_one", "_law_state", "_law_rows", "_law_told_here", "_law_e"]
theorem sc_law : FnScope N_law ["_law_script"] (defScope s_law) := ⟨rfl, rfl, rfl, by decide +kernel, rfl, by decide +kernel, by decide +kernel⟩
abbrev d_law : He.DefD := ⟨("law", none), "law", "law", defArgs s_law, defBody s_law, defScope s_law, [], []⟩
/-! ### the head -/
def fnA : List He.DefD := [d_fits, d_laid, d_words_of, d_clause_of, d_show_text, d_show_edit, d_show_deed, d_Motion_need, d_Matter_init, d_Matter_kind, d_Matter_rank, d_Matter_told, d_Change_init, d_Change_kind, d_Change_rank, d_Change_told, d_Mend_init, d_Mend_kind, d_Mend_rank, d_Mend_told, d_PutOff_init, d_PutOff_kind, d_PutOff_rank, d_PutOff_told, d_Close_kind, d_Close_rank, d_Close_need, d_Close_told, d_Lay_kind, d_Lay_rank, d_Lay_told, d_Rest_kind, d_Rest_rank, d_Rest_told, d_Point_init, d_Point_kind, d_Point_rank, d_Point_told, d_motion_of, d_bar_of, d_is_mendable, d_is_kept, d_Chamber_on_pile, d_Chamber_bar_now, d_Chamber_top]
def fnB : List He.DefD := [d_Chamber_matter, d_need_matter, d_Motion_check, d_Motion_keep, d_Change_check, d_NotLater_init, d_PutOff_check, d_Close_check, d_Lay_check, d_Mend_check, d_Chamber_close, d_Chamber_next_sitting, d_Chamber_note, d_Chamber_ended, d_Chamber_set_aside, d_Matter_lay, d_Change_mend, d_Change_keep, d_Mend_keep, d_PutOff_keep, d_Close_keep, d_Lay_keep, d_Rest_keep, d_Barred_init, d_NotYet_init, d_Chamber_move, d_Chamber_drop, d_Chamber_vote, d_Chamber_take, d_Chamber_motion, d_Chamber_state, d_Chamber_init, d_Chamber_matter_of, d_Chamber_kept_changes, d_Chamber_first_text, d_Chamber_minutes, d_wcell_at, d_wword, d_wclause, d_wdo, d_wcases, d_wtold, d_wmany, d_law]
def fnL : List He.DefD := fnA ++ fnB
def fsA_0 : List Fk := [fFree18, fGlo "fits", fGlo "laid", fGlo "words_of", fGlo "clause_of", fGlo "show_text", fGlo "show_edit", fGlo "show_deed", fMeth "Motion" "need", fMeth "Matter" "__init__", fMeth "Matter" "kind", fMeth "Matter" "rank", fMeth "Matter" "told", fMeth "Change" "__init__", fMeth "Change" "kind", fMeth "Change" "rank", fMeth "Change" "told", fMeth "Mend" "__init__", fMeth "Mend" "kind", fMeth "Mend" "rank", fMeth "Mend" "told", fMeth "PutOff" "__init__", fMeth "PutOff" "kind", fMeth "PutOff" "rank", fMeth "PutOff" "told", fMeth "Close" "kind", fMeth "Close" "rank", fMeth "Close" "need", fMeth "Close" "told", fMeth "Lay" "kind"]
def fsA_1 : List Fk := [fMeth "Lay" "rank", fMeth "Lay" "told", fMeth "Rest" "kind", fMeth "Rest" "rank", fMeth "Rest" "told", fMeth "Point" "__init__", fMeth "Point" "kind", fMeth "Point" "rank", fMeth "Point" "told", fGlo "motion_of", fGlo "bar_of", fGlo "is_mendable", fGlo "is_kept", fMeth "Chamber" "on_pile", fMeth "Chamber" "bar_now", fMeth "Chamber" "top", fMeth "Chamber" "matter", fGlo "need_matter", fMeth "Motion" "check", fMeth "Motion" "keep", fMeth "Change" "check", fMeth "NotLater" "__init__", fMeth "PutOff" "check", fMeth "Close" "check", fMeth "Lay" "check", fMeth "Mend" "check", fMeth "Chamber" "close", fMeth "Chamber" "next_sitting", fMeth "Chamber" "note", fMeth "Chamber" "ended"]
def fsA_2 : List Fk := [fMeth "Chamber" "set_aside", fMeth "Matter" "lay", fMeth "Change" "mend", fMeth "Change" "keep", fMeth "Mend" "keep", fMeth "PutOff" "keep", fMeth "Close" "keep", fMeth "Lay" "keep", fMeth "Rest" "keep", fMeth "Barred" "__init__", fMeth "NotYet" "__init__", fMeth "Chamber" "move", fMeth "Chamber" "drop", fMeth "Chamber" "vote", fMeth "Chamber" "take", fMeth "Chamber" "motion", fMeth "Chamber" "state", fMeth "Chamber" "__init__", fMeth "Chamber" "matter_of", fMeth "Chamber" "kept_changes", fMeth "Chamber" "first_text", fMeth "Chamber" "minutes", fGlo "_law_cell_at", fGlo "_law_word", fGlo "_law_clause", fGlo "_law_do", fGlo "_law_cases", fGlo "_law_told", fGlo "_law_many", fGlo "law"]
def fsA_3 : List Fk := [fAtt "Matter" "first", fAtt "Matter" "text", fAtt "Matter" "changes", fAtt "Change" "edit", fAtt "Mend" "edit", fAtt "PutOff" "sitting", fAtt "Point" "clause", fMk0 "Close", fMk0 "Lay", fMk0 "Rest", fGlo "Motion", fGlo "Matter", fGlo "Change", fGlo "Mend", fGlo "PutOff", fGlo "Close", fGlo "Lay", fGlo "Rest", fGlo "Point"]
def fsA : List Fk := fsA_0 ++ fsA_1 ++ fsA_2 ++ fsA_3
def fsB_0 : List Fk := [fIns "Matter", fIns "Change", fIns "Mend", fIns "PutOff", fIns "Close", fIns "Lay", fIns "Rest", fIns "Point", fSorts, fX0 "NoFit", fX0 "NoMatter", fX0 "NoChange", fX0 "Nothing", fX0 "TooMany", fX0 "NoAside", fAtt "Chamber" "seats", fAtt "Chamber" "sitting", fAtt "Chamber" "closed", fAtt "Chamber" "motions", fAtt "Chamber" "pile", fAtt "Chamber" "aside", fAtt "Chamber" "decided", fAtt "Chamber" "rows", fXF "NotLater" "sitting", fXF "Barred" "bar", fXF "NotYet" "sitting", fX0 "NoNumber", fRfB "ChamberError", fExm "NoNumber" "ChamberError" true, fKits rfA rfZ]
def fsB_1 : List Fk := [fKitV rfA "ValueError" true, fMth "Motion" "need", fInh "Matter" "Motion" "need", fInh "Change" "Motion" "need", fInh "Mend" "Motion" "need", fInh "PutOff" "Motion" "need", fInh "Lay" "Motion" "need", fInh "Rest" "Motion" "need", fInh "Point" "Motion" "need", fMk "Matter", fMth "Matter" "kind", fMth "Matter" "rank", fMth "Matter" "told", fMk "Change", fMth "Change" "kind", fMth "Change" "rank", fMth "Change" "told", fMk "Mend", fMth "Mend" "kind", fMth "Mend" "rank", fMth "Mend" "told", fMk "PutOff", fMth "PutOff" "kind", fMth "PutOff" "rank", fMth "PutOff" "told", fMth "Close" "kind", fMth "Close" "rank", fMth "Close" "need", fMth "Close" "told", fMth "Lay" "kind"]
def fsB_2 : List Fk := [fMth "Lay" "rank", fMth "Lay" "told", fMth "Rest" "kind", fMth "Rest" "rank", fMth "Rest" "told", fMk "Point", fMth "Point" "kind", fMth "Point" "rank", fMth "Point" "told", fMth "Chamber" "on_pile", fMth "Chamber" "bar_now", fMth "Chamber" "top", fMth "Chamber" "matter", fMth "Motion" "check", fInh "Matter" "Motion" "check", fInh "Rest" "Motion" "check", fInh "Point" "Motion" "check", fMth "Motion" "keep", fInh "Matter" "Motion" "keep", fInh "Point" "Motion" "keep", fMth "Change" "check", fMth "PutOff" "check", fMth "Close" "check", fMth "Lay" "check", fMth "Mend" "check", fMth "Chamber" "close", fMth "Chamber" "next_sitting", fMth "Chamber" "note", fMth "Chamber" "ended", fMth "Chamber" "set_aside"]
def fsB_3 : List Fk := [fMth "Matter" "lay", fMth "Change" "mend", fMth "Change" "keep", fMth "Mend" "keep", fMth "PutOff" "keep", fMth "Close" "keep", fMth "Lay" "keep", fMth "Rest" "keep", fMth "Chamber" "move", fMth "Chamber" "drop", fMth "Chamber" "vote", fMth "Chamber" "take", fMth "Chamber" "motion", fMth "Chamber" "state", fMk "Chamber", fMth "Chamber" "matter_of", fMth "Chamber" "kept_changes", fMth "Chamber" "first_text", fMth "Chamber" "minutes"]
def fsB : List Fk := fsB_0 ++ fsB_1 ++ fsB_2 ++ fsB_3
def fsL : List Fk := fsA ++ fsB
def looseL_0 : List PySem.Str := [("_wall" : PySem.Str), ("ChamberError" : PySem.Str), ("NoFit" : PySem.Str), ("Barred" : PySem.Str), ("NoMatter" : PySem.Str), ("NoChange" : PySem.Str), ("NotLater" : PySem.Str), ("Nothing" : PySem.Str), ("TooMany" : PySem.Str), ("NoAside" : PySem.Str), ("NotYet" : PySem.Str), ("NoNumber" : PySem.Str), ("NoRow" : PySem.Str), ("NoName" : PySem.Str), ("fits" : PySem.Str), ("laid" : PySem.Str), ("words_of" : PySem.Str), ("clause_of" : PySem.Str), ("Motion" : PySem.Str), ("need_matter" : PySem.Str)]
def looseL_1 : List PySem.Str := [("Matter" : PySem.Str), ("Change" : PySem.Str), ("is_mendable" : PySem.Str), ("Mend" : PySem.Str), ("PutOff" : PySem.Str), ("Close" : PySem.Str), ("Lay" : PySem.Str), ("Rest" : PySem.Str), ("Point" : PySem.Str), ("motion_of" : PySem.Str), ("bar_of" : PySem.Str), ("show_text" : PySem.Str), ("show_edit" : PySem.Str), ("show_deed" : PySem.Str), ("is_kept" : PySem.Str), ("Chamber" : PySem.Str), ("_law_cell_at" : PySem.Str), ("_law_word" : PySem.Str), ("_law_clause" : PySem.Str), ("_law_edit" : PySem.Str)]
def looseL_2 : List PySem.Str := [("_law_do" : PySem.Str), ("_law_cases" : PySem.Str), ("_law_told" : PySem.Str), ("_law_many" : PySem.Str)]
def looseL : List PySem.Str := looseL_0 ++ looseL_1 ++ looseL_2
abbrev hkL : PySem.W.Hook := hookM 4 fsL fnL
def obL (s : PySem.W.SharedT) : AlM := obsMG 4 fsL fnL (HandSHeadRun.getT s)
theorem ob_eqL (s : PySem.W.SharedT) : obL s = hkL.obs s.abs := obsMG_eq (HandSHeadRun.getT_eq s)
theorem run1L (w : World) (os : OsState) : (HandSHeadRun.endF (HandSHeadRun.stepQ (HandSHeadRun.denQ HandSHeadRun.tabQ) (PySem.W.OpenLaw.row PySem.Challenge.rw_moot_k14_refusals_apart).prog w) 24000 (PySem.W.OpenLaw.row PySem.Challenge.rw_moot_k14_refusals_apart).prog w os).map (fun s => HandSHeadRun.looksF (PySem.W.OpenLaw.row PySem.Challenge.rw_moot_k14_refusals_apart).prog (PySem.W.boot_heap w.params) s.abs) = some true := by kernel_rfl
theorem run2L (w : World) (os : OsState) : (HandSHeadRun.endF (HandSHeadRun.stepQ (HandSHeadRun.denQ HandSHeadRun.tabQ) (PySem.W.OpenLaw.row PySem.Challenge.rw_moot_k14_refusals_apart).prog w) 24000 (PySem.W.OpenLaw.row PySem.Challenge.rw_moot_k14_refusals_apart).prog w os).map (fun s => (HandSHeadRun.seenQ (PySem.W.view (PySem.W.OpenLaw.row PySem.Challenge.rw_moot_k14_refusals_apart).prog [52]) looseL (PySem.importedModules (PySem.W.OpenLaw.row PySem.Challenge.rw_moot_k14_refusals_apart).prog.main.body) (fun s => PySem.W.xlAt (PySem.W.view (PySem.W.OpenLaw.row PySem.Challenge.rw_moot_k14_refusals_apart).prog [52]) [] s && PySem.W.recOk (PySem.W.OpenLaw.row PySem.Challenge.rw_moot_k14_refusals_apart).toRowW.records s) s.abs).1) = some (PySem.W.openGood (PySem.W.view (PySem.W.OpenLaw.row PySem.Challenge.rw_moot_k14_refusals_apart).prog [52]) looseL).1 := by kernel_rfl
theorem run3L (w : World) (os : OsState) : (HandSHeadRun.endF (HandSHeadRun.stepQ (HandSHeadRun.denQ HandSHeadRun.tabQ) (PySem.W.OpenLaw.row PySem.Challenge.rw_moot_k14_refusals_apart).prog w) 24000 (PySem.W.OpenLaw.row PySem.Challenge.rw_moot_k14_refusals_apart).prog w os).map (fun s => (HandSHeadRun.seenQ (PySem.W.view (PySem.W.OpenLaw.row PySem.Challenge.rw_moot_k14_refusals_apart).prog [52]) looseL (PySem.importedModules (PySem.W.OpenLaw.row PySem.Challenge.rw_moot_k14_refusals_apart).prog.main.body) (fun s => PySem.W.xlAt (PySem.W.view (PySem.W.OpenLaw.row PySem.Challenge.rw_moot_k14_refusals_apart).prog [52]) [] s && PySem.W.recOk (PySem.W.OpenLaw.row PySem.Challenge.rw_moot_k14_refusals_apart).toRowW.records s) s.abs).2) = some (PySem.W.openGood (PySem.W.view (PySem.W.OpenLaw.row PySem.Challenge.rw_moot_k14_refusals_apart).prog [52]) looseL).2 := by kernel_rfl
theorem run4L (w : World) (os : OsState) : (HandSHeadRun.endF (HandSHeadRun.stepQ (HandSHeadRun.denQ HandSHeadRun.tabQ) (PySem.W.OpenLaw.row PySem.Challenge.rw_moot_k14_refusals_apart).prog w) 24000 (PySem.W.OpenLaw.row PySem.Challenge.rw_moot_k14_refusals_apart).prog w os).map (fun s => fsA.all fun f => f (Kof 4 s)) = some true := by kernel_rfl
theorem run5L (w : World) (os : OsState) : (HandSHeadRun.endF (HandSHeadRun.stepQ (HandSHeadRun.denQ HandSHeadRun.tabQ) (PySem.W.OpenLaw.row PySem.Challenge.rw_moot_k14_refusals_apart).prog w) 24000 (PySem.W.OpenLaw.row PySem.Challenge.rw_moot_k14_refusals_apart).prog w os).map (fun s => fsB.all fun f => f (Kof 4 s)) = some true := by kernel_rfl
theorem run6L (w : World) (os : OsState) : (HandSHeadRun.endF (HandSHeadRun.stepQ (HandSHeadRun.denQ HandSHeadRun.tabQ) (PySem.W.OpenLaw.row PySem.Challenge.rw_moot_k14_refusals_apart).prog w) 24000 (PySem.W.OpenLaw.row PySem.Challenge.rw_moot_k14_refusals_apart).prog w os).map (fun s => (fnA ++ fnB).all (He.DefD.ok (Kof 4 s))) = some true := by kernel_rfl
theorem run7L (w : World) (os : OsState) : (HandSHeadRun.endF (HandSHeadRun.stepQ (HandSHeadRun.denQ HandSHeadRun.tabQ) (PySem.W.OpenLaw.row PySem.Challenge.rw_moot_k14_refusals_apart).prog w) 24000 (PySem.W.OpenLaw.row PySem.Challenge.rw_moot_k14_refusals_apart).prog w os).map (fun s => fnA.map fun d => He.fnW (Kof 4 s) d.at_) = some (fnA.map He.DefD.val) := by kernel_rfl
theorem run8L (w : World) (os : OsState) : (HandSHeadRun.endF (HandSHeadRun.stepQ (HandSHeadRun.denQ HandSHeadRun.tabQ) (PySem.W.OpenLaw.row PySem.Challenge.rw_moot_k14_refusals_apart).prog w) 24000 (PySem.W.OpenLaw.row PySem.Challenge.rw_moot_k14_refusals_apart).prog w os).map (fun s => fnB.map fun d => He.fnW (Kof 4 s) d.at_) = some (fnB.map He.DefD.val) := by kernel_rfl
theorem runL (w : World) : HandSHeadRun.RunEq (PySem.W.OpenLaw.row PySem.Challenge.rw_moot_k14_refusals_apart) (PySem.W.view (PySem.W.OpenLaw.row PySem.Challenge.rw_moot_k14_refusals_apart).prog [52]) hkL obL 24000 looseL w := run8 (run1L w) (run2L w) (run3L w) (run4L w) (run5L w) (run6L w) (run7L w) (run8L w)
abbrev stepsL : Nat := 24000
end Law

set_option Elab.async false
set_option linter.all false
set_option maxRecDepth 100000
set_option maxHeartbeats 4000000
set_option autoImplicit false
/-! Data over the heap: what is never changed is a tree; what is changed stands in a store. -/
namespace Mo
open PySem L2

/-- data: trees (never changed), and objects of the store by their addresses -/
inductive D where
  | non | bl (b : Bool) | int (i : Int) | str (s : Str) | lst (ds : List D) | tup (ds : List D) | obj (a : Addr) | scr (ns : List Int)
/-- what stands in the store -/
inductive DO where
  | lst (ds : List D) | dct (kvs : List (Key × D)) | ins (C : Addr) (fs : List (Str × D)) | exc (C : Addr) (fs : List (Str × D))
abbrev Om := Addr → Option DO
def ups (om : Om) (a : Addr) (o : DO) : Om := fun b => if b = a then some o else om b
def dels (om : Om) (a : Addr) : Om := fun b => if b = a then none else om b
theorem ups_same {om : Om} {a : Addr} {o : DO} : ups om a o a = some o := if_pos rfl
theorem ups_ne {om : Om} {a b : Addr} {o : DO} (h : b ≠ a) : ups om a o b = om b := if_neg h
theorem dels_same {om : Om} {a : Addr} : dels om a a = none := if_pos rfl
theorem dels_ne {om : Om} {a b : Addr} (h : b ≠ a) : dels om a b = om b := if_neg h
theorem ups_ups {om : Om} {a : Addr} {o u : DO} : ups (ups om a o) a u = ups om a u := by
  funext b
  by_cases h : b = a
  · subst h; rw [ups_same, ups_same]
  · rw [ups_ne h, ups_ne h, ups_ne h]
theorem dels_ups {om : Om} {a : Addr} {o : DO} (h : om a = none) : dels (ups om a o) a = om := by
  funext b
  by_cases e : b = a
  · subst e; rw [dels_same, h]
  · rw [dels_ne e, ups_ne e]

/-- a list, a tuple of the written part -/
def KL (K : PySem.W.Frag) (a : Addr) (xs : List V) : Prop :=
  ∃ (o : Obj) (its : Array Value) (n : Nat), K.lookup a = some o ∧ o.cls = .type "list" ∧ o.dict = none ∧ o.data = .seq its n ∧ its.size ≤ sizeLine ∧ Vals xs its.toList
def KT (K : PySem.W.Frag) (a : Addr) (xs : List V) : Prop :=
  ∃ (o : Obj) (its : Array Value) (n : Nat), K.lookup a = some o ∧ o.cls = .type "tuple" ∧ o.data = .seq its n ∧ its.size ≤ sizeLine ∧ Vals xs its.toList

mutual
def Rep (K : PySem.W.Frag) (om : Om) (H : Hp) : D → V → Prop
  | .non, v => v = .non
  | .bl b, v => v = .bl b
  | .int i, v => v = .int i
  | .str s, v => v = .str s
  | .lst ds, v => ∃ a xs, v = .ref a ∧ (om a = none ∧ H a = some (.lst xs)) ∧ RepL K om H ds xs
  | .tup ds, v => ∃ a xs, v = .ref a ∧ ((om a = none ∧ H a = some (.tup xs)) ∨ KT K a xs) ∧ RepL K om H ds xs
  | .obj a, v => v = .ref a
  | .scr ns, v => ∃ a, v = .ref a ∧ ((om a = none ∧ Rd H a (.lst (ns.map V.int))) ∨ KL K a (ns.map V.int))
def RepL (K : PySem.W.Frag) (om : Om) (H : Hp) : List D → List V → Prop
  | [], xs => xs = []
  | d :: ds, xs => ∃ x r, xs = x :: r ∧ Rep K om H d x ∧ RepL K om H ds r
end

section
variable {K : PySem.W.Frag} {om om' : Om} {H H' : Hp}
/-- what is kept of the heap: what was no object of the store stays as it was -/
def Stable (om : Om) (H : Hp) (om' : Om) (H' : Hp) : Prop := ∀ a o, H a = some o → om a = none → H' a = some o ∧ om' a = none
theorem Stable.refl : Stable om H om H := fun _ _ h n => ⟨h, n⟩
theorem Stable.trans {om1 : Om} {H1 : Hp} (a : Stable om H om1 H1) (b : Stable om1 H1 om' H') : Stable om H om' H' := fun c o h n =>
  let ⟨h1, n1⟩ := a c o h n
  b c o h1 n1
theorem Stable.rd (s : Stable om H om' H') {a : Addr} {u : HO} (n : om a = none) (h : Rd H a u) : om' a = none ∧ Rd H' a u := by
  rcases h with h | ⟨o, h⟩
  · exact ⟨(s a _ h n).2, .inl (s a _ h n).1⟩
  · exact ⟨(s a _ h n).2, .inr ⟨o, (s a _ h n).1⟩⟩
mutual
theorem Rep.mono (s : Stable om H om' H') : ∀ {d : D} {v : V}, Rep K om H d v → Rep K om' H' d v
  | .non, _, h => h
  | .bl _, _, h => h
  | .int _, _, h => h
  | .str _, _, h => h
  | .lst ds, _, ⟨a, xs, e, ⟨n, h⟩, r⟩ => ⟨a, xs, e, ⟨(s a _ h n).2, (s a _ h n).1⟩, RepL.mono s r⟩
  | .tup ds, _, ⟨a, xs, e, h, r⟩ => ⟨a, xs, e, h.elim (fun ⟨n, q⟩ => .inl ⟨(s a _ q n).2, (s a _ q n).1⟩) .inr, RepL.mono s r⟩
  | .obj _, _, h => h
  | .scr ns, _, ⟨a, e, h⟩ => ⟨a, e, h.elim (fun ⟨n, q⟩ => .inl (s.rd n q)) .inr⟩
theorem RepL.mono (s : Stable om H om' H') : ∀ {ds : List D} {xs : List V}, RepL K om H ds xs → RepL K om' H' ds xs
  | [], _, h => h
  | _ :: _, _, ⟨x, r, e, h, t⟩ => ⟨x, r, e, Rep.mono s h, RepL.mono s t⟩
end
theorem RepL.length : ∀ {ds : List D} {xs : List V}, RepL K om H ds xs → ds.length = xs.length
  | [], _, h => by cases h; rfl
  | _ :: _, _, ⟨_, _, e, _, t⟩ => by cases e; exact congrArg (· + 1) (RepL.length t)
theorem RepL.get : ∀ {ds : List D} {xs : List V} {i : Nat} {d : D}, RepL K om H ds xs → ds[i]? = some d → ∃ x, xs[i]? = some x ∧ Rep K om H d x
  | [], _, _, _, _, h => by simp at h
  | d :: ds, _, 0, _, ⟨x, r, e, q, t⟩, h => by cases e; cases h; exact ⟨x, rfl, q⟩
  | d :: ds, _, i + 1, _, ⟨x, r, e, q, t⟩, h => by
    cases e
    obtain ⟨y, h1, h2⟩ := RepL.get (i := i) t (by simpa using h)
    exact ⟨y, by simpa using h1, h2⟩
theorem RepL.getV : ∀ {ds : List D} {xs : List V} {i : Nat} {x : V}, RepL K om H ds xs → xs[i]? = some x → ∃ d, ds[i]? = some d ∧ Rep K om H d x
  | [], _, _, _, h, e => by cases h; simp at e
  | d :: ds, _, 0, _, ⟨x, r, e, q, t⟩, h => by cases e; cases h; exact ⟨d, rfl, q⟩
  | d :: ds, _, i + 1, _, ⟨x, r, e, q, t⟩, h => by
    cases e
    obtain ⟨y, h1, h2⟩ := RepL.getV (i := i) t (by simpa using h)
    exact ⟨y, by simpa using h1, h2⟩
theorem RepL.app : ∀ {ds es : List D} {xs ys : List V}, RepL K om H ds xs → RepL K om H es ys → RepL K om H (ds ++ es) (xs ++ ys)
  | [], _, _, _, h, q => by cases h; exact q
  | _ :: _, _, _, _, ⟨x, r, e, h, t⟩, q => by cases e; exact ⟨x, _, rfl, h, RepL.app t q⟩
theorem RepL.one {d : D} {x : V} (h : Rep K om H d x) : RepL K om H [d] [x] := ⟨x, [], rfl, h, rfl⟩
theorem RepL.take : ∀ {ds : List D} {xs : List V} (n : Nat), RepL K om H ds xs → RepL K om H (ds.take n) (xs.take n)
  | _, _, 0, _ => rfl
  | [], _, _ + 1, h => by cases h; rfl
  | _ :: _, _, n + 1, ⟨x, r, e, h, t⟩ => by cases e; exact ⟨x, _, rfl, h, RepL.take n t⟩
theorem RepL.drop : ∀ {ds : List D} {xs : List V} (n : Nat), RepL K om H ds xs → RepL K om H (ds.drop n) (xs.drop n)
  | _, _, 0, h => h
  | [], _, _ + 1, h => by cases h; rfl
  | _ :: _, _, n + 1, ⟨x, r, e, h, t⟩ => by cases e; exact RepL.drop n t
theorem RepL.set : ∀ {ds : List D} {xs : List V} (n : Nat) {d : D} {x : V}, RepL K om H ds xs → Rep K om H d x → RepL K om H (ds.set n d) (xs.set n x)
  | [], _, _, _, _, h, _ => by cases h; rfl
  | _ :: _, _, 0, _, _, ⟨x, r, e, h, t⟩, q => by cases e; exact ⟨_, _, rfl, q, t⟩
  | _ :: _, _, n + 1, _, _, ⟨x, r, e, h, t⟩, q => by cases e; exact ⟨_, _, rfl, h, RepL.set n t q⟩
theorem RepL.ints : ∀ {ns : List Int} {xs : List V}, RepL K om H (ns.map D.int) xs → xs = ns.map V.int
  | [], _, h => h
  | _ :: _, _, ⟨x, r, e, h, t⟩ => by cases e; cases h; rw [RepL.ints t]; rfl
theorem RepL.of_ints : ∀ {ns : List Int}, RepL K om H (ns.map D.int) (ns.map V.int)
  | [] => rfl
  | _ :: _ => ⟨_, _, rfl, rfl, RepL.of_ints⟩
theorem RepL.strs : ∀ {ns : List Str} {xs : List V}, RepL K om H (ns.map D.str) xs → xs = ns.map V.str
  | [], _, h => h
  | _ :: _, _, ⟨x, r, e, h, t⟩ => by cases e; cases h; rw [RepL.strs t]; rfl
theorem RepL.of_strs : ∀ {ns : List Str}, RepL K om H (ns.map D.str) (ns.map V.str)
  | [] => rfl
  | _ :: _ => ⟨_, _, rfl, rfl, RepL.of_strs⟩
theorem RepL.bls : ∀ {ns : List Bool} {xs : List V}, RepL K om H (ns.map D.bl) xs → xs = ns.map V.bl
  | [], _, h => h
  | _ :: _, _, ⟨x, r, e, h, t⟩ => by cases e; cases h; rw [RepL.bls t]; rfl

/-- the fields of an exception, in the dict at d -/
def XdOk (K : PySem.W.Frag) (om : Om) (H : Hp) : Option Addr → List (Str × D) → Prop
  | none, fs => fs = []
  | some d, fs => ∃ fs' : List (Str × V), H d = some (.xd fs') ∧ om d = none ∧ fs'.map (·.1) = fs.map (·.1) ∧ RepL K om H (fs.map (·.2)) (fs'.map (·.2))
theorem XdOk.mono (s : Stable om H om' H') : ∀ {d : Option Addr} {fs : List (Str × D)}, XdOk K om H d fs → XdOk K om' H' d fs
  | none, _, h => h
  | some _, _, ⟨fs', h, n, k, r⟩ => ⟨fs', (s _ _ h n).1, (s _ _ h n).2, k, r.mono s⟩
/-- an exception that was caught, at a: its class is at C, its dict at d -/
def ExH (C : Addr) (d : Option Addr) (a : Addr) : HO := .ext fun h => ∃ (oe : Obj) (vs : Array Value), h.get? a = some oe ∧ Zc (.ref C) d oe ∧ oe.data = .fields vs
/-- an object of the store -/
def OO (K : PySem.W.Frag) (om : Om) (H : Hp) (a : Addr) : DO → Prop
  | .lst ds => ∃ xs, H a = some (.lst xs) ∧ RepL K om H ds xs
  | .dct kvs => ∃ kvs' : List (Key × V), H a = some (.dK kvs') ∧ kvs'.map (·.1) = kvs.map (·.1) ∧ RepL K om H (kvs.map (·.2)) (kvs'.map (·.2))
  | .ins C fs => ∃ dx, ∃ fs' : List (Str × V), H a = some (.ins C dx fs') ∧ fs'.map (·.1) = fs.map (·.1) ∧ RepL K om H (fs.map (·.2)) (fs'.map (·.2))
  | .exc C fs => ∃ d, H a = some (ExH C d a) ∧ XdOk K om H d fs
def StoreOk (K : PySem.W.Frag) (om : Om) (H : Hp) : Prop := ∀ a o, om a = some o → OO K om H a o
theorem OO.there {a : Addr} {o : DO} (h : OO K om H a o) : ∃ u, H a = some u := by
  cases o with
  | lst ds => obtain ⟨_, e, _⟩ := h; exact ⟨_, e⟩
  | dct kvs => obtain ⟨_, e, _⟩ := h; exact ⟨_, e⟩
  | ins C fs => obtain ⟨_, _, e, _⟩ := h; exact ⟨_, e⟩
  | exc C fs => obtain ⟨_, e, _⟩ := h; exact ⟨_, e⟩
theorem StoreOk.fresh (h : StoreOk K om H) {a : Addr} (n : H a = none) : om a = none := by
  cases q : om a with
  | none => rfl
  | some o =>
    obtain ⟨u, e⟩ := (h a o q).there
    rw [n] at e
    cases e
/-- an object whose place of the heap stays keeps its word under a stable change -/
theorem OO.mono {a : Addr} {o : DO} (s : Stable om H om' H') (e : H' a = H a) (h : OO K om H a o) : OO K om' H' a o := by
  cases o with
  | lst ds => obtain ⟨xs, h1, r⟩ := h; exact ⟨xs, e.trans h1, RepL.mono s r⟩
  | dct kvs => obtain ⟨xs, h1, k, r⟩ := h; exact ⟨xs, e.trans h1, k, RepL.mono s r⟩
  | ins C fs => obtain ⟨dx, xs, h1, k, r⟩ := h; exact ⟨dx, xs, e.trans h1, k, RepL.mono s r⟩
  | exc C fs => obtain ⟨d, h1, x⟩ := h; exact ⟨d, e.trans h1, x.mono s⟩
/-- a new thing that is no object of the store -/
theorem Stable.new {p : Addr} {u : HO} (h : H p = none) : Stable om H om (upd H p u) := fun a o e n => by
  rw [upd_ne (ne_of_none e h)]
  exact ⟨e, n⟩
theorem StoreOk.new {p : Addr} {u : HO} (S : StoreOk K om H) (h : H p = none) : StoreOk K om (upd H p u) := fun a o e => by
  obtain ⟨w, hw⟩ := (S a o e).there
  exact (S a o e).mono (Stable.new h) (upd_ne (ne_of_none hw h))
/-- an object of the store is written: om' and H' at a alone -/
theorem Stable.put {a : Addr} {o u : DO} {x : HO} (h : om a = some u) : Stable om H (ups om a o) (upd H a x) := fun b w e n => by
  have ne : b ≠ a := fun z => by subst z; rw [h] at n; cases n
  rw [upd_ne ne, ups_ne ne]
  exact ⟨e, n⟩
theorem StoreOk.put {a : Addr} {o u : DO} {x : HO} (S : StoreOk K om H) (h : om a = some u) (new : OO K (ups om a o) (upd H a x) a o) : StoreOk K (ups om a o) (upd H a x) := fun b w e => by
  by_cases z : b = a
  · subst z
    rw [ups_same] at e
    cases e
    exact new
  · rw [ups_ne z] at e
    exact (S b w e).mono (Stable.put h) (upd_ne z)
/-- a new object of the store -/
theorem Stable.mk {a : Addr} {o : DO} {x : HO} (h : H a = none) : Stable om H (ups om a o) (upd H a x) := fun b w e n => by
  have ne : b ≠ a := ne_of_none e h
  rw [upd_ne ne, ups_ne ne]
  exact ⟨e, n⟩
theorem StoreOk.mk {a : Addr} {o : DO} {x : HO} (S : StoreOk K om H) (h : H a = none) (new : OO K (ups om a o) (upd H a x) a o) : StoreOk K (ups om a o) (upd H a x) := fun b w e => by
  by_cases z : b = a
  · subst z
    rw [ups_same] at e
    cases e
    exact new
  · rw [ups_ne z] at e
    obtain ⟨w', hw⟩ := (S b w e).there
    exact (S b w e).mono (Stable.mk h) (upd_ne z)
/-- an object leaves the store: it is a tree from now on -/
theorem Stable.del {a : Addr} : Stable om H (dels om a) H := fun b w e n => by
  refine ⟨e, ?_⟩
  by_cases z : b = a
  · subst z; exact dels_same
  · rw [dels_ne z]; exact n
theorem StoreOk.del {a : Addr} (S : StoreOk K om H) : StoreOk K (dels om a) H := fun b w e => by
  by_cases z : b = a
  · subst z; rw [dels_same] at e; cases e
  · rw [dels_ne z] at e
    exact (S b w e).mono Stable.del rfl

/-- the slots of a frame -/
abbrev Ro := List (Option D)
structure Ok (K : PySem.W.Frag) (om0 : Om) (H0 : Hp) (om : Om) (H : Hp) (σ : L2.St) (ro : Ro) : Prop where
  store : StoreOk K om H
  stab : Stable om0 H0 om H
  slot : ∀ (i : Nat) (d : D), ro[i]? = some (some d) → ∃ v, σ[i]? = some (some v) ∧ Rep K om H d v
  len : σ.length = ro.length
theorem Ok.base {om0 om1 : Om} {H0 H1 : Hp} {σ : L2.St} {ro : Ro} (o : Ok K om0 H0 om H σ ro) : Ok K om H om H σ ro := ⟨o.store, Stable.refl, o.slot, o.len⟩
theorem Ok.up {om0 om1 : Om} {H0 H1 : Hp} {σ : L2.St} {ro : Ro} (s : Stable om0 H0 om1 H1) (o : Ok K om1 H1 om H σ ro) : Ok K om0 H0 om H σ ro := ⟨o.store, s.trans o.stab, o.slot, o.len⟩
theorem Ok.to {om0 : Om} {H0 : Hp} {σ : L2.St} {ro : Ro} (o : Ok K om0 H0 om H σ ro) (S : StoreOk K om' H') (s : Stable om H om' H') : Ok K om0 H0 om' H' σ ro :=
  ⟨S, o.stab.trans s, fun i d e => let ⟨v, a, r⟩ := o.slot i d e; ⟨v, a, r.mono s⟩, o.len⟩
theorem Ok.set {om0 : Om} {H0 : Hp} {σ : L2.St} {ro : Ro} (o : Ok K om0 H0 om H σ ro) (i : Nat) {d : D} {v : V} (r : Rep K om H d v) : Ok K om0 H0 om H (σ.set i (some v)) (ro.set i (some d)) := by
  refine ⟨o.store, o.stab, fun j e h => ?_, by rw [List.length_set, List.length_set]; exact o.len⟩
  by_cases z : i = j
  · subst z
    have hl : i < ro.length := by
      have := (List.getElem?_eq_some_iff.mp h).1
      rwa [List.length_set] at this
    rw [List.getElem?_set_self hl] at h
    cases h
    exact ⟨v, List.getElem?_set_self (by rw [o.len]; exact hl), r⟩
  · rw [List.getElem?_set_ne z] at h
    rw [List.getElem?_set_ne z]
    exact o.slot j e h
theorem Ok.unset {om0 : Om} {H0 : Hp} {σ : L2.St} {ro : Ro} (o : Ok K om0 H0 om H σ ro) (i : Nat) : Ok K om0 H0 om H (σ.set i none) (ro.set i none) := by
  refine ⟨o.store, o.stab, fun j e h => ?_, by rw [List.length_set, List.length_set]; exact o.len⟩
  by_cases z : i = j
  · subst z
    have hl : i < ro.length := by
      have := (List.getElem?_eq_some_iff.mp h).1
      rwa [List.length_set] at this
    rw [List.getElem?_set_self hl] at h
    cases h
  · rw [List.getElem?_set_ne z] at h
    rw [List.getElem?_set_ne z]
    exact o.slot j e h
theorem Ok.weak {om0 : Om} {H0 : Hp} {σ : L2.St} {ro ro' : Ro} (o : Ok K om0 H0 om H σ ro) (hl : ro'.length = ro.length) (h : ∀ (i : Nat) (d : D), ro'[i]? = some (some d) → ro[i]? = some (some d)) : Ok K om0 H0 om H σ ro' :=
  ⟨o.store, o.stab, fun i d e => o.slot i d (h i d e), o.len.trans hl.symm⟩
end
end Mo

set_option Elab.async false
set_option linter.all false
set_option maxRecDepth 100000
set_option maxHeartbeats 4000000
set_option autoImplicit false
/-! The judgements over data: what an expression, a test, a list of arguments, a block of statements is worth. -/
namespace Mo
open PySem PySem.Spec PyProof.Rows L2

/-! ### the weakest readings -/
section
variable (X : Cx)
def pE (e : Expr) : TE := fun σ H Q => ∀ (pins : List (Addr × Obj)) (s : Shared), Inv X pins σ H s → wpAny (model X.prog X.w) X.A (eval e X.env) (EP X pins σ Q) X.xe s
def pT (e : Expr) : TT := fun σ H Q => ∀ (pins : List (Addr × Obj)) (s : Shared), Inv X pins σ H s → wpAny (model X.prog X.w) X.A (isTrue e X.env (eval e X.env)) (TP X pins σ Q) X.xe s
def pA (es : List Expr) : TA := fun σ H Q => ∀ (pos : Pos) (pins : List (Addr × Obj)) (s : Shared), Inv X pins σ H s → wpAny (model X.prog X.w) X.A (spliced (backTo pos (starEach es X.env))) (AP X pins σ Q) X.xe s
def pS (st : Stmt) : TS := fun D σ H => ∀ (pins : List (Addr × Obj)) (s : Shared), Inv X pins σ H s → wpAny (model X.prog X.w) X.A (exec st X.env) (SP X pins D) X.xe s
def pSs (sts : List Stmt) : TS := fun D σ H => ∀ (pins : List (Addr × Obj)) (s : Shared), Inv X pins σ H s → wpAny (model X.prog X.w) X.A (execs sts X.env) (SP X pins D) X.xe s
def pI (tg iter : Expr) : TI := fun σ H R => ∀ (pins : List (Addr × Obj)) (s : Shared), Inv X pins σ H s →
  wpAny (model X.prog X.w) X.A (eval iter X.env) (fun v s1 => wpAny (model X.prog X.w) X.A (pyIter v) (PIE X pins σ tg R) X.xe s1) X.xe s
end
section
variable {X : Cx} {e : Expr} {es : List Expr} {st : Stmt} {sts : List Stmt} {σ : L2.St} {H : Hp}
theorem pE_pe : PE X e (pE X e) := ⟨fun pins s _ _ _ I h => h pins s I⟩
theorem pT_pt : PT X e (pT X e) := ⟨fun pins s _ _ _ I h => h pins s I⟩
theorem pA_pa : PA X es (pA X es) := ⟨fun pos pins s _ _ _ I h => h pos pins s I⟩
theorem pS_ps : PS X st (pS X st) := ⟨fun pins s _ _ _ I h => h pins s I⟩
theorem pSs_ps : PSs X sts (pSs X sts) := ⟨fun pins s _ _ _ I h => h pins s I⟩
theorem pI_pi {tg iter : Expr} : PI X tg iter (pI X tg iter) := ⟨fun pins s _ _ _ I h => h pins s I⟩
theorem pE_of {t : TE} (h : PE X e t) {Q : VK} (q : t σ H Q) : pE X e σ H Q := fun pins s I => h.run pins s σ H Q I q
theorem pT_of {t : TT} (h : PT X e t) {Q : Bool → Hp → Prop} (q : t σ H Q) : pT X e σ H Q := fun pins s I => h.run pins s σ H Q I q
theorem pA_of {t : TA} (h : PA X es t) {Q : List V → Hp → Prop} (q : t σ H Q) : pA X es σ H Q := fun pos pins s I => h.run pos pins s σ H Q I q
theorem pS_of {t : TS} (h : PS X st t) {D : Ends} (q : t D σ H) : pS X st D σ H := fun pins s I => h.run pins s σ H D I q
theorem pSs_of {t : TS} (h : PSs X sts t) {D : Ends} (q : t D σ H) : pSs X sts D σ H := fun pins s I => h.run pins s σ H D I q
theorem pI_of {tg iter : Expr} {t : TI} (h : PI X tg iter t) {R : It → Hp → Prop} (q : t σ H R) : pI X tg iter σ H R := fun pins s I => h.run pins s σ H R I q
theorem pE_mono {Q Q' : VK} (h : pE X e σ H Q) (k : ∀ v H', Q v H' → Q' v H') : pE X e σ H Q' := fun pins s I =>
  thn (h pins s I) fun u s' ⟨v, H', I', r, q⟩ => ⟨v, H', I', r, k v H' q⟩
theorem pT_mono {Q Q' : Bool → Hp → Prop} (h : pT X e σ H Q) (k : ∀ v H', Q v H' → Q' v H') : pT X e σ H Q' := fun pins s I =>
  thn (h pins s I) fun u s' ⟨H', I', q⟩ => ⟨H', I', k u H' q⟩
theorem pA_mono {Q Q' : List V → Hp → Prop} (h : pA X es σ H Q) (k : ∀ v H', Q v H' → Q' v H') : pA X es σ H Q' := fun pos pins s I =>
  thn (h pos pins s I) fun u s' ⟨v, H', I', r, q⟩ => ⟨v, H', I', r, k v H' q⟩
/-- one end is stronger than the other -/
structure EndsLe (D D' : Ends) : Prop where
  nx : ∀ σ H, D.nx σ H → D'.nx σ H
  rt : ∀ v H, D.rt v H → D'.rt v H
  bk : ∀ σ H, D.bk σ H → D'.bk σ H
  ct : ∀ σ H, D.ct σ H → D'.ct σ H
theorem SP_mono {pins : List (Addr × Obj)} {D D' : Ends} (l : EndsLe D D') {f : Flow} {s' : Shared} (h : SP X pins D f s') : SP X pins D' f s' := by
  cases f with
  | next => obtain ⟨σ', H', I', q⟩ := h; exact ⟨σ', H', I', l.nx _ _ q⟩
  | brk => obtain ⟨σ', H', I', q⟩ := h; exact ⟨σ', H', I', l.bk _ _ q⟩
  | cont => obtain ⟨σ', H', I', q⟩ := h; exact ⟨σ', H', I', l.ct _ _ q⟩
  | ret u => obtain ⟨v, σ', H', I', r, q⟩ := h; exact ⟨v, σ', H', I', r, l.rt _ _ q⟩
theorem pS_mono {D D' : Ends} (h : pS X st D σ H) (l : EndsLe D D') : pS X st D' σ H := fun pins s I => thn (h pins s I) fun _ _ q => SP_mono l q
theorem pSs_mono {D D' : Ends} (h : pSs X sts D σ H) (l : EndsLe D D') : pSs X sts D' σ H := fun pins s I => thn (h pins s I) fun _ _ q => SP_mono l q
/-- the heap's own facts, ahead of a step -/
theorem pE_inv {Q : VK} (h : (∀ pins s, Inv X pins σ H s → pE X e σ H Q)) : pE X e σ H Q := fun pins s I => h pins s I pins s I
end

/-! ### the judgements -/
abbrev RX := Value → List (Str × D) → Ro → Om → Prop
def Wof (K : PySem.W.Frag) (om0 : Om) (H0 : Hp) (R : RX) : WX := fun c d σ H => ∃ fs ro om, R c fs ro om ∧ Ok K om0 H0 om H σ ro ∧ XdOk K om H d fs
theorem Wof.imp {K : PySem.W.Frag} {om0 om1 : Om} {H0 H1 : Hp} {R R' : RX} (s : Stable om0 H0 om1 H1) (h : ∀ c fs ro om, R c fs ro om → R' c fs ro om) :
    ∀ c d σ H, Wof K om1 H1 R c d σ H → Wof K om0 H0 R' c d σ H := fun c d σ H ⟨fs, ro, om, r, o, x⟩ => ⟨fs, ro, om, h _ _ _ _ r, ⟨o.store, s.trans o.stab, o.slot, o.len⟩, x⟩
def Tk (X : Cx) (om0 : Om) (H0 : Hp) (R : RX) : Prop := Takes X (Wof X.K om0 H0 R)
theorem Tk.at {X : Cx} {om0 om1 : Om} {H0 H1 : Hp} {R : RX} (t : Tk X om0 H0 R) (s : Stable om0 H0 om1 H1) : Tk X om1 H1 R := Takes.imp t (Wof.imp s fun _ _ _ _ h => h)
theorem Tk.less {X : Cx} {om0 : Om} {H0 : Hp} {R R' : RX} (t : Tk X om0 H0 R) (h : ∀ c fs ro om, R' c fs ro om → R c fs ro om) : Tk X om0 H0 R' := Takes.imp t (Wof.imp Stable.refl h)
theorem Tk.no {X : Cx} {om0 : Om} {H0 : Hp} : Tk X om0 H0 (fun _ _ _ _ => False) := fun u s' x => by
  obtain ⟨_, _, _, _, _, _, _, _, _, _, _, _, _, _, _, _, z⟩ := x
  obtain ⟨_, _, _, f, _⟩ := z
  exact f.elim

abbrev DK := D → Om → Prop
/-- an expression -/
structure we (X : Cx) (R : RX) (ro : Ro) (om : Om) (e : Expr) (Q : DK) : Prop where
  go : ∀ (om0 : Om) (H0 : Hp), Tk X om0 H0 R → ∀ (σ : L2.St) (H : Hp), Ok X.K om0 H0 om H σ ro →   pE X e σ H fun v H' => ∃ d om', Q d om' ∧ Ok X.K om0 H0 om' H' σ ro ∧ Rep X.K om' H' d v
instance {X : Cx} {R : RX} {ro : Ro} {om : Om} {e : Expr} {Q : DK} : CoeFun (we X R ro om e Q) (fun _ => ∀ (om0 : Om) (H0 : Hp), Tk X om0 H0 R → ∀ (σ : L2.St) (H : Hp), Ok X.K om0 H0 om H σ ro →   pE X e σ H fun v H' => ∃ d om', Q d om' ∧ Ok X.K om0 H0 om' H' σ ro ∧ Rep X.K om' H' d v) := ⟨we.go⟩
structure wt (X : Cx) (R : RX) (ro : Ro) (om : Om) (e : Expr) (Q : Bool → Om → Prop) : Prop where
  go : ∀ (om0 : Om) (H0 : Hp), Tk X om0 H0 R → ∀ (σ : L2.St) (H : Hp), Ok X.K om0 H0 om H σ ro →   pT X e σ H fun b H' => ∃ om', Q b om' ∧ Ok X.K om0 H0 om' H' σ ro
instance {X : Cx} {R : RX} {ro : Ro} {om : Om} {e : Expr} {Q : Bool → Om → Prop} : CoeFun (wt X R ro om e Q) (fun _ => ∀ (om0 : Om) (H0 : Hp), Tk X om0 H0 R → ∀ (σ : L2.St) (H : Hp), Ok X.K om0 H0 om H σ ro →   pT X e σ H fun b H' => ∃ om', Q b om' ∧ Ok X.K om0 H0 om' H' σ ro) := ⟨wt.go⟩
structure wa (X : Cx) (R : RX) (ro : Ro) (om : Om) (es : List Expr) (Q : List D → Om → Prop) : Prop where
  go : ∀ (om0 : Om) (H0 : Hp), Tk X om0 H0 R → ∀ (σ : L2.St) (H : Hp), Ok X.K om0 H0 om H σ ro →   pA X es σ H fun vs H' => ∃ ds om', Q ds om' ∧ Ok X.K om0 H0 om' H' σ ro ∧ RepL X.K om' H' ds vs
instance {X : Cx} {R : RX} {ro : Ro} {om : Om} {es : List Expr} {Q : List D → Om → Prop} : CoeFun (wa X R ro om es Q) (fun _ => ∀ (om0 : Om) (H0 : Hp), Tk X om0 H0 R → ∀ (σ : L2.St) (H : Hp), Ok X.K om0 H0 om H σ ro →   pA X es σ H fun vs H' => ∃ ds om', Q ds om' ∧ Ok X.K om0 H0 om' H' σ ro ∧ RepL X.K om' H' ds vs) := ⟨wa.go⟩
structure De where
  nx : Ro → Om → Prop
  rt : DK
  bk : Ro → Om → Prop
  ct : Ro → Om → Prop
  ex : RX
def ends (K : PySem.W.Frag) (om0 : Om) (H0 : Hp) (D : De) : Ends where
  nx := fun σ H => ∃ ro om, D.nx ro om ∧ Ok K om0 H0 om H σ ro
  rt := fun v H => ∃ d om, D.rt d om ∧ StoreOk K om H ∧ Stable om0 H0 om H ∧ Rep K om H d v
  bk := fun σ H => ∃ ro om, D.bk ro om ∧ Ok K om0 H0 om H σ ro
  ct := fun σ H => ∃ ro om, D.ct ro om ∧ Ok K om0 H0 om H σ ro
/-- a statement, a block -/
structure w1 (X : Cx) (D : De) (ro : Ro) (om : Om) (st : Stmt) : Prop where
  go : ∀ (om0 : Om) (H0 : Hp), Tk X om0 H0 D.ex → ∀ (σ : L2.St) (H : Hp), Ok X.K om0 H0 om H σ ro → pS X st (ends X.K om0 H0 D) σ H
instance {X : Cx} {D : De} {ro : Ro} {om : Om} {st : Stmt} : CoeFun (w1 X D ro om st) (fun _ => ∀ (om0 : Om) (H0 : Hp), Tk X om0 H0 D.ex → ∀ (σ : L2.St) (H : Hp), Ok X.K om0 H0 om H σ ro → pS X st (ends X.K om0 H0 D) σ H) := ⟨w1.go⟩
structure ws (X : Cx) (D : De) (ro : Ro) (om : Om) (sts : List Stmt) : Prop where
  go : ∀ (om0 : Om) (H0 : Hp), Tk X om0 H0 D.ex → ∀ (σ : L2.St) (H : Hp), Ok X.K om0 H0 om H σ ro → pSs X sts (ends X.K om0 H0 D) σ H
instance {X : Cx} {D : De} {ro : Ro} {om : Om} {sts : List Stmt} : CoeFun (ws X D ro om sts) (fun _ => ∀ (om0 : Om) (H0 : Hp), Tk X om0 H0 D.ex → ∀ (σ : L2.St) (H : Hp), Ok X.K om0 H0 om H σ ro → pSs X sts (ends X.K om0 H0 D) σ H) := ⟨ws.go⟩
structure DeLe (D D' : De) : Prop where
  nx : ∀ ro om, D.nx ro om → D'.nx ro om
  rt : ∀ d om, D.rt d om → D'.rt d om
  bk : ∀ ro om, D.bk ro om → D'.bk ro om
  ct : ∀ ro om, D.ct ro om → D'.ct ro om
  ex : ∀ c fs ro om, D.ex c fs ro om → D'.ex c fs ro om
theorem ends_le {K : PySem.W.Frag} {om0 : Om} {H0 : Hp} {D D' : De} (l : DeLe D D') : EndsLe (ends K om0 H0 D) (ends K om0 H0 D') :=
  ⟨fun _ _ ⟨ro, om, h, o⟩ => ⟨ro, om, l.nx _ _ h, o⟩, fun _ _ ⟨d, om, h, o⟩ => ⟨d, om, l.rt _ _ h, o⟩, fun _ _ ⟨ro, om, h, o⟩ => ⟨ro, om, l.bk _ _ h, o⟩, fun _ _ ⟨ro, om, h, o⟩ => ⟨ro, om, l.ct _ _ h, o⟩⟩

section
variable {X : Cx} {R R' : RX} {ro : Ro} {om : Om} {e : Expr} {es : List Expr} {st : Stmt} {sts : List Stmt} {F : De}
theorem we_mono {Q Q' : DK} (h : we X R ro om e Q) (k : ∀ d om', Q d om' → Q' d om') : we X R ro om e Q' := .mk fun om0 H0 t σ H o =>
  pE_mono (h om0 H0 t σ H o) fun _ _ ⟨d, om', q, r⟩ => ⟨d, om', k _ _ q, r⟩
theorem wt_mono {Q Q' : Bool → Om → Prop} (h : wt X R ro om e Q) (k : ∀ d om', Q d om' → Q' d om') : wt X R ro om e Q' := .mk fun om0 H0 t σ H o =>
  pT_mono (h om0 H0 t σ H o) fun _ _ ⟨om', q, r⟩ => ⟨om', k _ _ q, r⟩
theorem wa_mono {Q Q' : List D → Om → Prop} (h : wa X R ro om es Q) (k : ∀ d om', Q d om' → Q' d om') : wa X R ro om es Q' := .mk fun om0 H0 t σ H o =>
  pA_mono (h om0 H0 t σ H o) fun _ _ ⟨d, om', q, r⟩ => ⟨d, om', k _ _ q, r⟩
theorem we_ex {Q : DK} (h : we X R ro om e Q) (k : ∀ c fs ro om, R c fs ro om → R' c fs ro om) : we X R' ro om e Q := .mk fun om0 H0 t σ H o => h om0 H0 (t.less k) σ H o
theorem wt_ex {Q : Bool → Om → Prop} (h : wt X R ro om e Q) (k : ∀ c fs ro om, R c fs ro om → R' c fs ro om) : wt X R' ro om e Q := .mk fun om0 H0 t σ H o => h om0 H0 (t.less k) σ H o
theorem ws_mono {D D' : De} (h : ws X D ro om sts) (l : DeLe D D') : ws X D' ro om sts := .mk fun om0 H0 t σ H o => pSs_mono (h om0 H0 (t.less l.ex) σ H o) (ends_le l)
theorem w1_mono {D D' : De} (h : w1 X D ro om st) (l : DeLe D D') : w1 X D' ro om st := .mk fun om0 H0 t σ H o => pS_mono (h om0 H0 (t.less l.ex) σ H o) (ends_le l)

/-- a block: its first statement, then the rest -/
theorem ws_cons {rest : List Stmt} (h : w1 X { F with nx := fun ro' om' => ws X F ro' om' rest } ro om st) : ws X F ro om (st :: rest) := .mk fun om0 H0 t σ H o => by
  refine pSs_of (pss_cons pS_ps pSs_ps) ?_
  show pS X st { ends X.K om0 H0 F with nx := pSs X rest (ends X.K om0 H0 F) } σ H
  refine pS_mono (h om0 H0 t σ H o) ⟨fun σ' H' ⟨ro', om', q, o'⟩ => q om0 H0 t σ' H' o', fun _ _ q => q, fun _ _ q => q, fun _ _ q => q⟩
theorem ws_nil (h : F.nx ro om) : ws X F ro om [] := .mk fun om0 H0 t σ H o => pSs_of pss_nil (show (ends X.K om0 H0 F).nx σ H from ⟨ro, om, h, o⟩)
theorem ws_one (h : w1 X F ro om st) : ws X F ro om [st] := .mk fun om0 H0 t σ H o => pSs_of (pss_one pS_ps) (h om0 H0 t σ H o)
/-- what holds of a pure value: wherever it is wanted -/
structure wv (X : Cx) (ro : Ro) (om : Om) (e : Expr) (d : D) : Prop where
  go : ∀ (R : RX) (Q : DK), Q d om → we X R ro om e Q
instance {X : Cx} {ro : Ro} {om : Om} {e : Expr} {d : D} : CoeFun (wv X ro om e d) (fun _ => ∀ (R : RX) (Q : DK), Q d om → we X R ro om e Q) := ⟨wv.go⟩
structure wtv (X : Cx) (ro : Ro) (om : Om) (e : Expr) (b : Bool) : Prop where
  go : ∀ (R : RX) (Q : Bool → Om → Prop), Q b om → wt X R ro om e Q
instance {X : Cx} {ro : Ro} {om : Om} {e : Expr} {b : Bool} : CoeFun (wtv X ro om e b) (fun _ => ∀ (R : RX) (Q : Bool → Om → Prop), Q b om → wt X R ro om e Q) := ⟨wtv.go⟩
structure wav (X : Cx) (ro : Ro) (om : Om) (es : List Expr) (ds : List D) : Prop where
  go : ∀ (R : RX) (Q : List D → Om → Prop), Q ds om → wa X R ro om es Q
instance {X : Cx} {ro : Ro} {om : Om} {es : List Expr} {ds : List D} : CoeFun (wav X ro om es ds) (fun _ => ∀ (R : RX) (Q : List D → Om → Prop), Q ds om → wa X R ro om es Q) := ⟨wav.go⟩
theorem wv_is {d d' : D} (h : wv X ro om e d) (q : d = d') : wv X ro om e d' := q ▸ h
theorem wtv_is {d d' : Bool} (h : wtv X ro om e d) (q : d = d') : wtv X ro om e d' := q ▸ h

/-! ### names, constants -/
theorem v_name (i : Nat) {x : Str} {pos : Pos} {d : D} (hN : X.N[i]? = some x) (h : ro[i]? = some (some d)) (hv : Vis X.env.scope x) (hd : (x == ("__debug__" : Str)) = false := by decide) (hcd : (x == ("__classdict__" : Str)) = false := by decide) :
    wv X ro om (.Name x pos) d := .mk fun R Q q => .mk fun om0 H0 t σ H o => by
  obtain ⟨v, hs, r⟩ := o.slot i d h
  exact pE_of (pe_var hN hv hd hcd) ⟨v, hs, d, om, q, o, r⟩
theorem v_int {i : Int} {j : Nat} {pos : Pos} : wv X ro om (.Constant (.int i) j pos) (.int i) := .mk fun R Q q => .mk fun om0 H0 t σ H o => pE_of pe_int ⟨.int i, om, q, o, rfl⟩
theorem v_bl {b : Bool} {j : Nat} {pos : Pos} : wv X ro om (.Constant (.bool b) j pos) (.bl b) := .mk fun R Q q => .mk fun om0 H0 t σ H o => pE_of pe_bl ⟨.bl b, om, q, o, rfl⟩
theorem v_non {j : Nat} {pos : Pos} : wv X ro om (.Constant .none j pos) .non := .mk fun R Q q => .mk fun om0 H0 t σ H o => pE_of pe_non ⟨.non, om, q, o, rfl⟩
theorem v_str {x : Str} {j : Nat} {pos : Pos} : wv X ro om (.Constant (.str x) j pos) (.str x) := .mk fun R Q q => .mk fun om0 H0 t σ H o => pE_of pe_str ⟨.str x, om, q, o, rfl⟩
/-- a constant of the module -/
theorem v_glob {x : Str} {pos : Pos} {d : D} {v : V} {u : Value} (hm : X.mg x = some u) (r : RelV v u) (k : ∀ om H, Rep X.K om H d v) (hg : Gl X x) (hd : (x == ("__debug__" : Str)) = false := by decide) : wv X ro om (.Name x pos) d := .mk fun R Q q => .mk fun om0 H0 t σ H o =>
  pE_of (pe_glob hg hm r hd) ⟨d, om, q, o, k om H⟩

/-! ### arguments -/
theorem a_nil {Q : List D → Om → Prop} (q : Q [] om) : wa X R ro om [] Q := .mk fun om0 H0 t σ H o => pA_of pa_nil ⟨[], om, q, o, rfl⟩
theorem a_cons {Q : List D → Om → Prop} (h : we X R ro om e fun d om1 => wa X R ro om1 es fun ds om2 => Q (d :: ds) om2)
    (hs : starEach (e :: es) X.env = (false, eval e X.env) :: starEach es X.env := by rfl) : wa X R ro om (e :: es) Q := .mk fun om0 H0 t σ H o => by
  refine pA_of (pa_cons pE_pe pA_pa hs) ?_
  refine pE_mono (h om0 H0 t σ H o) fun v H1 ⟨d, om1, q, o1, r⟩ => ?_
  refine pA_mono (q om1 H1 (t.at o1.stab) σ H1 ⟨o1.store, Stable.refl, o1.slot, o1.len⟩) fun vs H2 ⟨ds, om2, q2, o2, r2⟩ => ?_
  exact ⟨d :: ds, om2, q2, ⟨o2.store, o1.stab.trans o2.stab, o2.slot, o2.len⟩, _, _, rfl, r.mono o2.stab, r2⟩
theorem av_nil : wav X ro om [] [] := .mk fun R Q q => a_nil q
theorem av_cons {d : D} {ds : List D} (h : wv X ro om e d) (k : wav X ro om es ds) (hs : starEach (e :: es) X.env = (false, eval e X.env) :: starEach es X.env := by rfl) : wav X ro om (e :: es) (d :: ds) := .mk fun R Q q =>
  a_cons (h R _ (k R _ q)) hs

/-! ### two-place operators -/
/-- the weakest reading of an operator -/
def wR (X : Cx) (f : Value → Value → Sem Value) : R2 := fun x y H Q => ∀ (pins : List (Addr × Obj)) (s : Shared) (σ : L2.St) (v u : Value), Inv X pins σ H s → RelV x v → RelV y u → wpAny (model X.prog X.w) X.A (f v u) (EP X pins σ Q) X.xe s
theorem wR_op {f : Value → Value → Sem Value} : OpR X f (wR X f) := fun pins s σ H x y v u Q I rx ry h => h pins s σ v u I rx ry
theorem wR_of {f : Value → Value → Sem Value} {r : R2} (h : OpR X f r) {x y : V} {H : Hp} {Q : VK} (q : r x y H Q) : wR X f x y H Q := fun pins s σ v u I rx ry => h pins s σ H x y v u Q I rx ry q
/-- x op y, in the store om -/
def Op2 (X : Cx) (om : Om) (f : Value → Value → Sem Value) (x y : D) (Q : DK) : Prop := ∀ (om0 : Om) (H0 : Hp) (σ : L2.St) (ro : Ro) (H : Hp) (v u : V), Ok X.K om0 H0 om H σ ro → Rep X.K om H x v → Rep X.K om H y u →
  wR X f v u H fun w H' => ∃ d om', Q d om' ∧ Ok X.K om0 H0 om' H' σ ro ∧ Rep X.K om' H' d w
theorem e_op {op : Operator} {a b : Expr} {pos : Pos} {Q : DK} (h : we X R ro om a fun x om1 => we X R ro om1 b fun y om2 => Op2 X om2 (binaryOp op) x y Q) : we X R ro om (.BinOp a op b pos) Q := .mk fun om0 H0 t σ H o => by
  refine pE_of (pe_op wR_op pE_pe pE_pe) ?_
  refine pE_mono (h om0 H0 t σ H o) fun v H1 ⟨x, om1, q, o1, r⟩ => ?_
  refine pE_mono (q om1 H1 (t.at o1.stab) σ H1 ⟨o1.store, Stable.refl, o1.slot, o1.len⟩) fun u H2 ⟨y, om2, q2, o2, r2⟩ => ?_
  exact q2 om0 H0 σ ro H2 v u ⟨o2.store, o1.stab.trans o2.stab, o2.slot, o2.len⟩ (r.mono o2.stab) r2
end
end Mo

set_option Elab.async false
set_option linter.all false
set_option maxRecDepth 100000
set_option maxHeartbeats 4000000
set_option autoImplicit false
/-! Operators, comparisons, subscripts over data. -/
namespace Mo
open PySem PySem.Spec PyProof.Rows L2

section
variable {X : Cx} {R : RX} {ro : Ro} {om : Om} {e a b c : Expr} {es : List Expr} {st : Stmt} {sts : List Stmt} {F : De} {pos : Pos} {x y z : D} {f : Value → Value → Sem Value}

/-- x op y is z, purely -/
structure Op (X : Cx) (om : Om) (f : Value → Value → Sem Value) (x y z : D) : Prop where
  go : ∀ Q : DK, Q z om → Op2 X om f x y Q
instance {X : Cx} {om : Om} {f : Value → Value → Sem Value} {x y z : D} : CoeFun (Op X om f x y z) (fun _ => ∀ Q : DK, Q z om → Op2 X om f x y Q) := ⟨Op.go⟩
theorem v_op {op : Operator} (h : wv X ro om a x) (k : wv X ro om b y) (o : Op X om (binaryOp op) x y z) : wv X ro om (.BinOp a op b pos) z := .mk fun R Q q =>
  e_op (h R _ (k R _ (o Q q)))
/-- the common case: the heap is as it was -/
theorem Op.of {r : R2} (h : OpR X f r) (k : ∀ (H : Hp) (v u : V), StoreOk X.K om H → Rep X.K om H x v → Rep X.K om H y u → ∀ Q : VK, (∀ w, Rep X.K om H z w → Q w H) → r v u H Q) : Op X om f x y z :=
  .mk fun Q q om0 H0 σ ro H v u o rx ry => wR_of h (k H v u o.store rx ry _ fun w rw => ⟨z, om, q, o, rw⟩)
/-- a new thing -/
theorem Op.new {r : R2} (h : OpR X f r) (k : ∀ (H : Hp) (v u : V), StoreOk X.K om H → Rep X.K om H x v → Rep X.K om H y u → ∀ Q : VK, (∀ w H', StoreOk X.K om H' → Stable om H om H' → Rep X.K om H' z w → Q w H') → r v u H Q) : Op X om f x y z :=
  .mk fun Q q om0 H0 σ ro H v u o rx ry => wR_of h (k H v u o.store rx ry _ fun w H' S s rw => ⟨z, om, q, o.to S s, rw⟩)
theorem o_add {i j : Int} : Op X om (binaryOp .Add) (.int i) (.int j) (.int (i + j)) := .of op_add fun H v u S rx ry Q q => by cases rx; cases ry; exact ⟨i, j, rfl, rfl, q _ rfl⟩
theorem o_sub {i j : Int} : Op X om (binaryOp .Sub) (.int i) (.int j) (.int (i - j)) := .of op_sub fun H v u S rx ry Q q => by cases rx; cases ry; exact ⟨i, j, rfl, rfl, q _ rfl⟩
theorem o_mul {i j : Int} (h : CMul i j) : Op X om (binaryOp .Mult) (.int i) (.int j) (.int (i * j)) := .of op_mul fun H v u S rx ry Q q => by cases rx; cases ry; exact ⟨i, j, rfl, rfl, h, q _ rfl⟩
theorem o_div {i j : Int} (h : CDiv i j) : Op X om (binaryOp .FloorDiv) (.int i) (.int j) (.int (i / j)) := .of op_fdiv fun H v u S rx ry Q q => by cases rx; cases ry; exact ⟨i, j, rfl, rfl, h, q _ rfl⟩
theorem o_mod {i j : Int} (h : 0 < j) : Op X om (binaryOp .Mod) (.int i) (.int j) (.int (i % j)) := .of op_mod fun H v u S rx ry Q q => by cases rx; cases ry; exact ⟨i, j, rfl, rfl, h, q _ rfl⟩
theorem o_pow {i j : Int} (h : CPow i j) : Op X om (binaryOp .Pow) (.int i) (.int j) (.int (i ^ j.toNat)) := .of op_pow fun H v u S rx ry Q q => by cases rx; cases ry; exact ⟨i, j, rfl, rfl, h, q _ rfl⟩
theorem o_addS {i j : Str} (h : i.length + j.length ≤ sizeLine) : Op X om (binaryOp .Add) (.str i) (.str j) (.str (i ++ j)) := .of op_add_str fun H v u S rx ry Q q => by cases rx; cases ry; exact ⟨i, j, rfl, rfl, h, q _ rfl⟩
/-- a list: a tree or an object of the store -/
def Lr (om : Om) (x : D) (ds : List D) : Prop := x = .lst ds ∨ ∃ p, x = .obj p ∧ om p = some (.lst ds)
theorem Lr.im {ds : List D} : Lr om (.lst ds) ds := .inl rfl
theorem Lr.ob {p : Addr} {ds : List D} (h : om p = some (.lst ds)) : Lr om (.obj p) ds := .inr ⟨p, rfl, h⟩
theorem Lr.rep {H : Hp} {K : PySem.W.Frag} {ds : List D} {v : V} (l : Lr om x ds) (S : StoreOk K om H) (r : Rep K om H x v) : ∃ p xs, v = .ref p ∧ H p = some (.lst xs) ∧ RepL K om H ds xs := by
  rcases l with rfl | ⟨p, rfl, h⟩
  · obtain ⟨p, xs, e, ⟨_, h⟩, q⟩ := r
    exact ⟨p, xs, e, h, q⟩
  · cases r
    obtain ⟨xs, h1, q⟩ := S _ _ h
    exact ⟨p, xs, rfl, h1, q⟩
theorem tup_rep {H : Hp} {K : PySem.W.Frag} {ds : List D} {v : V} (r : Rep K om H (.tup ds) v) : ∃ p xs, v = .ref p ∧ SqT K H p xs ∧ RepL K om H ds xs := by
  obtain ⟨p, xs, e, h, q⟩ := r
  exact ⟨p, xs, e, h.elim (fun h => .inl (.inl h.2)) .inr, q⟩
/-- a new list, a new tuple, as a tree -/
theorem new_lst {H : Hp} {K : PySem.W.Frag} {ds : List D} {xs : List V} {p : Addr} (S : StoreOk K om H) (n : H p = none) (r : RepL K om H ds xs) : Rep K om (upd H p (.lst xs)) (.lst ds) (.ref p) :=
  ⟨p, xs, rfl, ⟨S.fresh n, upd_same⟩, r.mono (Stable.new n)⟩
theorem new_tup {H : Hp} {K : PySem.W.Frag} {ds : List D} {xs : List V} {p : Addr} (S : StoreOk K om H) (n : H p = none) (r : RepL K om H ds xs) : Rep K om (upd H p (.tup xs)) (.tup ds) (.ref p) :=
  ⟨p, xs, rfl, .inl ⟨S.fresh n, upd_same⟩, r.mono (Stable.new n)⟩
theorem o_addL {ds es : List D} (l : Lr om x ds) (m : Lr om y es) (h : ds.length + es.length ≤ sizeLine) : Op X om (binaryOp .Add) x y (.lst (ds ++ es)) := .new op_cat fun H v u S rx ry Q q => by
  obtain ⟨p, xs, rfl, h1, r1⟩ := l.rep S rx
  obtain ⟨p', ys, rfl, h2, r2⟩ := m.rep S ry
  exact ⟨p, p', xs, ys, rfl, rfl, h1, h2, by rw [← r1.length, ← r2.length]; exact h, fun t n => q _ _ (S.new n) (Stable.new n) (new_lst S n (r1.app r2))⟩
theorem o_addT {ds es : List D} (hd : ds ≠ []) (he : es ≠ []) (h : ds.length + es.length ≤ sizeLine) : Op X om (binaryOp .Add) (.tup ds) (.tup es) (.tup (ds ++ es)) := .new op_catT fun H v u S rx ry Q q => by
  obtain ⟨p, xs, rfl, h1, r1⟩ := tup_rep rx
  obtain ⟨p', ys, rfl, h2, r2⟩ := tup_rep ry
  refine ⟨p, p', xs, ys, rfl, rfl, h1, h2, fun z => ?_, by rw [← r1.length, ← r2.length]; exact h, fun z => ?_, fun _ t n => q _ _ (S.new n) (Stable.new n) (new_tup S n (r1.app r2))⟩
  · subst z; exact hd (List.length_eq_zero_iff.mp r1.length)
  · subst z; exact absurd (List.length_eq_zero_iff.mp r2.length) he
theorem o_addT0 {ds : List D} (hd : ds ≠ []) (h : ds.length ≤ sizeLine) : Op X om (binaryOp .Add) (.tup ds) (.tup []) (.tup ds) := .of op_catT fun H v u S rx ry Q q => by
  obtain ⟨p, xs, rfl, h1, r1⟩ := tup_rep rx
  obtain ⟨p', ys, rfl, h2, r2⟩ := tup_rep ry
  have e : ys = [] := List.length_eq_zero_iff.mp r2.length.symm
  refine ⟨p, p', xs, ys, rfl, rfl, h1, h2, fun z => ?_, by rw [← r1.length, e]; exact h, fun _ => q _ rx, fun z => absurd e z⟩
  subst z; exact hd (List.length_eq_zero_iff.mp r1.length)

/-! ### comparisons -/
theorem e_cmp {op : CmpOp} {Q : DK} (h : we X R ro om a fun x om1 => we X R ro om1 b fun y om2 => Op2 X om2 (compareOp op) x y Q) (hm : behindInMarks op b = false := by first | exact nomark _ | rfl) : we X R ro om (.Compare a [op] [b] pos) Q := .mk fun om0 H0 t σ H o => by
  refine pE_of (pe_cmpR wR_op pE_pe pE_pe hm) ?_
  refine pE_mono (h om0 H0 t σ H o) fun v H1 ⟨x, om1, q, o1, r⟩ => ?_
  refine pE_mono (q om1 H1 (t.at o1.stab) σ H1 ⟨o1.store, Stable.refl, o1.slot, o1.len⟩) fun u H2 ⟨y, om2, q2, o2, r2⟩ => ?_
  exact q2 om0 H0 σ ro H2 v u ⟨o2.store, o1.stab.trans o2.stab, o2.slot, o2.len⟩ (r.mono o2.stab) r2
theorem t_cmp {op : CmpOp} {Q : Bool → Om → Prop} (h : we X R ro om a fun x om1 => we X R ro om1 b fun y om2 => Op2 X om2 (compareOp op) x y fun d om3 => ∃ k, d = .bl k ∧ Q k om3) (hm : behindInMarks op b = false := by first | exact nomark _ | rfl) : wt X R ro om (.Compare a [op] [b] pos) Q := .mk fun om0 H0 t σ H o => by
  refine pT_of (pt_cmpR wR_op pE_pe pE_pe hm) ?_
  refine pE_mono (h om0 H0 t σ H o) fun v H1 ⟨x, om1, q, o1, r⟩ => ?_
  refine pE_mono (q om1 H1 (t.at o1.stab) σ H1 ⟨o1.store, Stable.refl, o1.slot, o1.len⟩) fun u H2 ⟨y, om2, q2, o2, r2⟩ => ?_
  refine fun pins s σ' v' u' I rv ru => thn (q2 om0 H0 σ ro H2 v u ⟨o2.store, o1.stab.trans o2.stab, o2.slot, o2.len⟩ (r.mono o2.stab) r2 pins s σ' v' u' I rv ru) fun w s' ⟨w', H3, I3, rw, d, om3, ⟨k, ek, q3⟩, o3, r3⟩ => ?_
  subst ek
  cases r3
  exact ⟨_, H3, I3, rw, k, rfl, om3, q3, o3⟩
theorem v_cmp {op : CmpOp} (h : wv X ro om a x) (k : wv X ro om b y) (o : Op X om (compareOp op) x y z) (hm : behindInMarks op b = false := by first | exact nomark _ | rfl) : wv X ro om (.Compare a [op] [b] pos) z := .mk fun R Q q =>
  e_cmp (h R _ (k R _ (o Q q))) hm
theorem tv_cmp {op : CmpOp} {k' : Bool} (h : wv X ro om a x) (k : wv X ro om b y) (o : Op X om (compareOp op) x y (.bl k')) (hm : behindInMarks op b = false := by first | exact nomark _ | rfl) : wtv X ro om (.Compare a [op] [b] pos) k' := .mk fun R Q q =>
  t_cmp (h R _ (k R _ (o _ ⟨k', rfl, q⟩))) hm
theorem c_lt {i j : Int} : Op X om (compareOp .Lt) (.int i) (.int j) (.bl (decide (i < j))) := .of op_lt fun H v u S rx ry Q q => by cases rx; cases ry; exact ⟨i, j, rfl, rfl, q _ rfl⟩
theorem c_le {i j : Int} : Op X om (compareOp .LtE) (.int i) (.int j) (.bl (decide (i ≤ j))) := .of op_le fun H v u S rx ry Q q => by cases rx; cases ry; exact ⟨i, j, rfl, rfl, q _ rfl⟩
theorem c_gt {i j : Int} : Op X om (compareOp .Gt) (.int i) (.int j) (.bl (decide (j < i))) := .of op_gt fun H v u S rx ry Q q => by cases rx; cases ry; exact ⟨i, j, rfl, rfl, q _ rfl⟩
theorem c_ge {i j : Int} : Op X om (compareOp .GtE) (.int i) (.int j) (.bl (decide (j ≤ i))) := .of op_ge fun H v u S rx ry Q q => by cases rx; cases ry; exact ⟨i, j, rfl, rfl, q _ rfl⟩
theorem c_eqI {i j : Int} : Op X om (compareOp .Eq) (.int i) (.int j) (.bl (decide (i = j))) := .of op_eq fun H v u S rx ry Q q => by
  cases rx; cases ry
  refine ⟨rfl, q _ ?_⟩
  rw [dec_int, Bool.beq_eq_decide_eq]; rfl
theorem c_neI {i j : Int} : Op X om (compareOp .NotEq) (.int i) (.int j) (.bl (!decide (i = j))) := .of op_ne fun H v u S rx ry Q q => by
  cases rx; cases ry
  refine ⟨rfl, q _ ?_⟩
  rw [dec_int, Bool.beq_eq_decide_eq]; rfl
theorem decS {i j : Str} : decide (V.str i = V.str j) = decide (i = j) := by
  by_cases h : i = j
  · subst h; rw [decide_eq_true rfl, decide_eq_true rfl]
  · rw [decide_eq_false h, decide_eq_false fun z => h (V.str.inj z)]
theorem decB {i j : Bool} : decide (V.bl i = V.bl j) = decide (i = j) := by
  by_cases h : i = j
  · subst h; rw [decide_eq_true rfl, decide_eq_true rfl]
  · rw [decide_eq_false h, decide_eq_false fun z => h (V.bl.inj z)]
theorem c_eqS {i j : Str} : Op X om (compareOp .Eq) (.str i) (.str j) (.bl (decide (i = j))) := .of op_eq fun H v u S rx ry Q q => by
  cases rx; cases ry
  refine ⟨rfl, q _ ?_⟩
  rw [decS]; rfl
theorem c_neS {i j : Str} : Op X om (compareOp .NotEq) (.str i) (.str j) (.bl (!decide (i = j))) := .of op_ne fun H v u S rx ry Q q => by
  cases rx; cases ry
  refine ⟨rfl, q _ ?_⟩
  rw [decS]; rfl
theorem c_eqB {i j : Bool} : Op X om (compareOp .Eq) (.bl i) (.bl j) (.bl (decide (i = j))) := .of op_eq fun H v u S rx ry Q q => by
  cases rx; cases ry
  refine ⟨rfl, q _ ?_⟩
  rw [decB]; rfl
theorem c_neB {i j : Bool} : Op X om (compareOp .NotEq) (.bl i) (.bl j) (.bl (!decide (i = j))) := .of op_ne fun H v u S rx ry Q q => by
  cases rx; cases ry
  refine ⟨rfl, q _ ?_⟩
  rw [decB]; rfl
/-- is it None -/
def isN : D → Bool
  | .non => true
  | _ => false
theorem isN_rep {H : Hp} {K : PySem.W.Frag} {v : V} (r : Rep K om H x v) : decide (v = .non) = isN x := by
  cases x with
  | non => cases r; rfl
  | bl b => cases r; rfl
  | int b => cases r; rfl
  | str b => cases r; rfl
  | lst ds => obtain ⟨p, xs, rfl, _⟩ := r; rfl
  | tup ds => obtain ⟨p, xs, rfl, _⟩ := r; rfl
  | obj p => cases r; rfl
  | scr ds => obtain ⟨p, rfl, _⟩ := r; rfl
theorem c_is : Op X om (compareOp .Is) x .non (.bl (isN x)) := .of op_isN fun H v u S rx ry Q q => by
  cases ry
  refine ⟨rfl, q _ ?_⟩
  rw [isN_rep rx]; rfl
theorem c_isnot : Op X om (compareOp .IsNot) x .non (.bl (!isN x)) := .of op_notN fun H v u S rx ry Q q => by
  cases ry
  refine ⟨rfl, q _ ?_⟩
  rw [isN_rep rx]; rfl

/-! ### == of data -/
/-- what x reads as, in the store -/
inductive Pd (om : Om) : D → PyData → Prop
  | non : Pd om .non .none
  | bl (b : Bool) : Pd om (.bl b) (.bool b)
  | int (i : Int) : Pd om (.int i) (.int i)
  | str (s : Str) : Pd om (.str s) (.str s)
  | lst {ds : List D} {ps : List PyData} (h : ds.length = ps.length) (k : ∀ (i : Nat) (d : D) (p : PyData), ds[i]? = some d → ps[i]? = some p → Pd om d p) : Pd om (.lst ds) (.list ps)
  | tup {ds : List D} {ps : List PyData} (h : ds.length = ps.length) (k : ∀ (i : Nat) (d : D) (p : PyData), ds[i]? = some d → ps[i]? = some p → Pd om d p) : Pd om (.tup ds) (.tuple ps)
  | obj {a : Addr} {ds : List D} {ps : List PyData} (e : om a = some (.lst ds)) (h : ds.length = ps.length) (k : ∀ (i : Nat) (d : D) (p : PyData), ds[i]? = some d → ps[i]? = some p → Pd om d p) : Pd om (.obj a) (.list ps)
theorem dpAll_of {K : PySem.W.Frag} {H : Hp} : ∀ {ds : List D} {ps : List PyData} {xs : List V}, RepL K om H ds xs → ds.length = ps.length → (∀ (i : Nat) (d : D) (p : PyData), ds[i]? = some d → ps[i]? = some p → ∀ v, Rep K om H d v → Dp K H v p) → DpAll K H xs ps
  | [], [], _, h, _, _ => by cases h; exact .nil
  | d :: ds, p :: ps, _, ⟨x, r, e, h, t⟩, l, k => by
    cases e
    exact .cons (k 0 d p rfl rfl x h) (dpAll_of t (by simpa using l) fun i d' p' h1 h2 => k (i + 1) d' p' (by simpa using h1) (by simpa using h2))
  | [], _ :: _, _, _, l, _ => by simp at l
  | _ :: _, [], _, _, l, _ => by simp at l
theorem Pd.dp {K : PySem.W.Frag} {H : Hp} (S : StoreOk K om H) {d : D} {p : PyData} (h : Pd om d p) : ∀ v, Rep K om H d v → Dp K H v p := by
  induction h with
  | non => intro v r; cases r; exact .non
  | bl b => intro v r; cases r; exact .bl b
  | int i => intro v r; cases r; exact .int i
  | str s => intro v r; cases r; exact .str s
  | lst h k ih =>
    intro v r
    obtain ⟨a, xs, rfl, ⟨_, h1⟩, q⟩ := r
    exact .lst (SqL.of h1) (dpAll_of q h ih)
  | tup h k ih =>
    intro v r
    obtain ⟨a, xs, rfl, h1, q⟩ := tup_rep r
    exact .tup h1 (dpAll_of q h ih)
  | obj e h k ih =>
    intro v r
    cases r
    obtain ⟨xs, h1, q⟩ := S _ _ e
    exact .lst (SqL.of h1) (dpAll_of q h ih)
/-- no dict within, not deep -/
def pok (p : PyData) : Prop := p.plain = true ∧ p.depth ≤ 60
def rEqP (K : PySem.W.Frag) (neg : Bool) : R2 := fun x y H Q => ∃ d e, Dp K H x d ∧ Dp K H y e ∧ pok d ∧ pok e ∧ Q (.bl (if neg then !PyData.eqv d e else PyData.eqv d e)) H
theorem op_eqP (hu : X.A.units + 64 < cLine) : OpR X (compareOp .Eq) (rEqP X.K false) := by
  intro pins s σ H x y v u Q I rx ry h
  obtain ⟨d, e, hd, he, sd, se, q⟩ := h
  obtain ⟨as, r1⟩ := Dp.reads I d x v hd rx
  obtain ⟨bs, r2⟩ := Dp.reads I e y u he ry
  have m : min d.depth e.depth ≤ 60 := Nat.le_trans (Nat.min_le_left _ _) sd.2
  exact SeqAt.eq_plain r1 r2 sd.1 se.1 (by omega) ⟨.bl _, H, I, rfl, q⟩
theorem op_neP (hu : X.A.units + 64 < cLine) : OpR X (compareOp .NotEq) (rEqP X.K true) := by
  intro pins s σ H x y v u Q I rx ry h
  obtain ⟨d, e, hd, he, sd, se, q⟩ := h
  obtain ⟨as, r1⟩ := Dp.reads I d x v hd rx
  obtain ⟨bs, r2⟩ := Dp.reads I e y u he ry
  have m : min d.depth e.depth ≤ 60 := Nat.le_trans (Nat.min_le_left _ _) sd.2
  exact SeqAt.ne_plain r1 r2 sd.1 se.1 (by omega) ⟨.bl _, H, I, rfl, q⟩
theorem c_eqD {p q : PyData} (hu : X.A.units + 64 < cLine) (hx : Pd om x p) (hy : Pd om y q) (kp : pok p) (kq : pok q) : Op X om (compareOp .Eq) x y (.bl (PyData.eqv p q)) := .of (op_eqP hu) fun H v u S rx ry Q k =>
  ⟨p, q, hx.dp S v rx, hy.dp S u ry, kp, kq, k _ rfl⟩
theorem c_neD {p q : PyData} (hu : X.A.units + 64 < cLine) (hx : Pd om x p) (hy : Pd om y q) (kp : pok p) (kq : pok q) : Op X om (compareOp .NotEq) x y (.bl (!PyData.eqv p q)) := .of (op_neP hu) fun H v u S rx ry Q k =>
  ⟨p, q, hx.dp S v rx, hy.dp S u ry, kp, kq, k _ rfl⟩
def rInP (K : PySem.W.Frag) (neg : Bool) : R2 := fun x y H Q => ∃ d es, Dp K H x d ∧ (Dp K H y (.list es) ∨ Dp K H y (.tuple es)) ∧ pok d ∧ pok (.tuple es) ∧ Q (.bl (if neg then !es.any (fun e => PyData.eqv e d) else es.any (fun e => PyData.eqv e d))) H
theorem op_inP (hu : X.A.units + 65 < cLine) : OpR X (compareOp .In) (rInP X.K false) := by
  intro pins s σ H x y v u Q I rx ry h
  obtain ⟨d, es, hd, he, sd, se, q⟩ := h
  obtain ⟨as, r1⟩ := Dp.reads I d x v hd rx
  have m : min (PyData.depthAll es) d.depth ≤ 60 := Nat.le_trans (Nat.min_le_right _ _) sd.2
  have pl : PyData.plainAll es = true := se.1
  rcases he with he | he
  · obtain ⟨bs, r2⟩ := Dp.reads I _ y u he ry
    exact SeqAt.in_list_data r2 r1 pl sd.1 (by omega) ⟨.bl _, H, I, rfl, q⟩
  · obtain ⟨bs, r2⟩ := Dp.reads I _ y u he ry
    exact SeqAt.in_tuple_data r2 r1 pl sd.1 (by omega) ⟨.bl _, H, I, rfl, q⟩
theorem op_notInP (hu : X.A.units + 65 < cLine) : OpR X (compareOp .NotIn) (rInP X.K true) := by
  intro pins s σ H x y v u Q I rx ry h
  obtain ⟨d, es, hd, he, sd, se, q⟩ := h
  obtain ⟨as, r1⟩ := Dp.reads I d x v hd rx
  have m : min (PyData.depthAll es) d.depth ≤ 60 := Nat.le_trans (Nat.min_le_right _ _) sd.2
  have pl : PyData.plainAll es = true := se.1
  rcases he with he | he
  · obtain ⟨bs, r2⟩ := Dp.reads I _ y u he ry
    exact SeqAt.notIn_list_data r2 r1 pl sd.1 (by omega) ⟨.bl _, H, I, rfl, q⟩
  · obtain ⟨bs, r2⟩ := Dp.reads I _ y u he ry
    exact SeqAt.notIn_tuple_data r2 r1 pl sd.1 (by omega) ⟨.bl _, H, I, rfl, q⟩
/-- the items that a list or a tuple reads as -/
def Pds (om : Om) (y : D) (es : List PyData) : Prop := Pd om y (.list es) ∨ Pd om y (.tuple es)
theorem c_in {p : PyData} {es : List PyData} (hu : X.A.units + 65 < cLine) (hx : Pd om x p) (hy : Pds om y es) (kp : pok p) (kq : pok (.tuple es)) : Op X om (compareOp .In) x y (.bl (es.any fun e => PyData.eqv e p)) := .of (op_inP hu) fun H v u S rx ry Q k =>
  ⟨p, es, hx.dp S v rx, hy.elim (fun h => .inl (h.dp S u ry)) (fun h => .inr (h.dp S u ry)), kp, kq, k _ rfl⟩
theorem c_notIn {p : PyData} {es : List PyData} (hu : X.A.units + 65 < cLine) (hx : Pd om x p) (hy : Pds om y es) (kp : pok p) (kq : pok (.tuple es)) : Op X om (compareOp .NotIn) x y (.bl (!es.any fun e => PyData.eqv e p)) := .of (op_notInP hu) fun H v u S rx ry Q k =>
  ⟨p, es, hx.dp S v rx, hy.elim (fun h => .inl (h.dp S u ry)) (fun h => .inr (h.dp S u ry)), kp, kq, k _ rfl⟩

/-! ### subscripts -/
def wIx (X : Cx) : R2 := fun x y H Q => ∀ (value slice : Expr) (pins : List (Addr × Obj)) (s : Shared) (σ : L2.St) (v u : Value), Inv X pins σ H s → RelV x v → RelV y u →
    subscripted slice false v u = operate [v, u] (getItem v u) → wpAny (model X.prog X.w) X.A (subscriptTail value slice v u) (EP X pins σ Q) X.xe s
theorem wIx_ix : IxR X (wIx X) := fun value slice pins s σ H x y v u Q I rx ry h hs => h value slice pins s σ v u I rx ry hs
theorem wIx_of {r : R2} (h : IxR X r) {x y : V} {H : Hp} {Q : VK} (q : r x y H Q) : wIx X x y H Q := fun value slice pins s σ v u I rx ry hs => h value slice pins s σ H x y v u Q I rx ry q hs
/-- x[y], in the store om -/
def Ix2 (X : Cx) (om : Om) (x y : D) (Q : DK) : Prop := ∀ (om0 : Om) (H0 : Hp) (σ : L2.St) (ro : Ro) (H : Hp) (v u : V), Ok X.K om0 H0 om H σ ro → Rep X.K om H x v → Rep X.K om H y u →
  wIx X v u H fun w H' => ∃ d om', Q d om' ∧ Ok X.K om0 H0 om' H' σ ro ∧ Rep X.K om' H' d w
theorem e_ix {Q : DK} (h : we X R ro om a fun x om1 => we X R ro om1 b fun y om2 => Ix2 X om2 x y Q) (hs : PlainIx b := by exact fun _ _ => rfl) : we X R ro om (.Subscript a b pos) Q := .mk fun om0 H0 t σ H o => by
  refine pE_of (pe_ix wIx_ix pE_pe pE_pe hs) ?_
  refine pE_mono (h om0 H0 t σ H o) fun v H1 ⟨x, om1, q, o1, r⟩ => ?_
  refine pE_mono (q om1 H1 (t.at o1.stab) σ H1 ⟨o1.store, Stable.refl, o1.slot, o1.len⟩) fun u H2 ⟨y, om2, q2, o2, r2⟩ => ?_
  exact q2 om0 H0 σ ro H2 v u ⟨o2.store, o1.stab.trans o2.stab, o2.slot, o2.len⟩ (r.mono o2.stab) r2
/-- x[y] is z -/
inductive Ix (X : Cx) (om : Om) (x y z : D) : Prop
  | seq (h : ∀ Q : DK, Q z om → Ix2 X om x y Q)
  | dct (a : Addr) (kvs : List (Key × D)) (k : Key) (e : x = .obj a) (h : om a = some (.dct kvs)) (hk : ∀ (H : Hp) (u : V), Rep X.K om H y u → u = kV k) (hz : (kvs.find? fun kv => decide (kv.1 = k)).map (·.2) = some z)
theorem valV_of {K : PySem.W.Frag} {H : Hp} {k : Key} {z : D} : ∀ {kvs : List (Key × D)} {kvs' : List (Key × V)}, kvs'.map (·.1) = kvs.map (·.1) → RepL K om H (kvs.map (·.2)) (kvs'.map (·.2)) →
    (kvs.find? fun kv => decide (kv.1 = k)).map (·.2) = some z → ∃ w, valV kvs' k = some w ∧ Rep K om H z w
  | [], _, _, _, h => by simp at h
  | (k1, d) :: r, [], e, _, _ => by simp at e
  | (k1, d) :: r, (k2, v) :: r', e, q, h => by
    simp only [List.map_cons, List.cons.injEq] at e
    obtain ⟨rfl, e⟩ := e
    obtain ⟨x, t, ex, q1, q2⟩ := q
    simp only [List.map_cons, List.cons.injEq] at ex
    obtain ⟨rfl, rfl⟩ := ex
    unfold valV
    by_cases hk : k2 = k
    · subst hk
      simp only [List.find?_cons, decide_true, Option.map_some, Option.some.injEq] at h ⊢
      subst h
      exact ⟨v, rfl, q1⟩
    · simp only [List.find?_cons, hk, decide_false] at h ⊢
      exact valV_of e q2 h
theorem v_ix (h : wv X ro om a x) (k : wv X ro om b y) (o : Ix X om x y z) (hu : X.A.units + 1 < cLine) (hs : PlainIx b := by exact fun _ _ => rfl) : wv X ro om (.Subscript a b pos) z := .mk fun R Q q => by
  cases o with
  | seq o => exact e_ix (h R _ (k R _ (o Q q))) hs
  | dct p kvs key e hp hk hz =>
    subst e
    refine .mk fun om0 H0 t σ H o => ?_
    refine pE_of (pe_dget hu pE_pe pE_pe hs) ?_
    refine pE_mono (h R (fun x om1 => x = .obj p ∧ om1 = om) ⟨rfl, rfl⟩ om0 H0 t σ H o) fun v H1 ⟨x, om1, ⟨e1, e2⟩, o1, r⟩ => ?_
    subst e1 e2
    refine pE_mono (k R (fun x om2 => x = y ∧ om2 = om1) ⟨rfl, rfl⟩ om0 H0 t σ H1 o1) fun u H2 ⟨y', om2, ⟨e1, e2⟩, o2, r2⟩ => ?_
    subst e1 e2
    cases r
    obtain ⟨kvs', h1, h2, h3⟩ := o2.store _ _ hp
    obtain ⟨w, h4, h5⟩ := valV_of h2 h3 hz
    rw [hk H2 u r2]
    exact ⟨p, w, rfl, (by rw [← h4]; exact DGet.k h1), z, om2, q, o2, h5⟩
theorem Ix.of {r : R2} (h : IxR X r) (k : ∀ (H : Hp) (v u : V), StoreOk X.K om H → Rep X.K om H x v → Rep X.K om H y u → ∀ Q : VK, (∀ w, Rep X.K om H z w → Q w H) → r v u H Q) : Ix X om x y z :=
  .seq fun Q q om0 H0 σ ro H v u o rx ry => wIx_of h (k H v u o.store rx ry _ fun w rw => ⟨z, om, q, o, rw⟩)
theorem atI_rep {K : PySem.W.Frag} {H : Hp} {ds : List D} {xs : List V} {i : Int} {d : D} (r : RepL K om H ds xs) (h : atI ds i = some d) : ∃ v, atI xs i = some v ∧ Rep K om H d v := by
  unfold atI at h ⊢
  rw [← r.length]
  cases e : ixN ds.length i with
  | none => rw [e] at h; cases h
  | some j =>
    rw [e] at h
    obtain ⟨v, h1, h2⟩ := r.get h
    exact ⟨v, h1, h2⟩
theorem ix_L {ds : List D} {i : Int} (l : Lr om x ds) (h : atI ds i = some z) : Ix X om x (.int i) z := .of ix_list fun H v u S rx ry Q q => by
  cases ry
  obtain ⟨p, xs, rfl, h1, r1⟩ := l.rep S rx
  obtain ⟨w, h2, rw⟩ := atI_rep r1 h
  exact ⟨p, xs, i, w, rfl, rfl, SqL.of h1, h2, q w rw⟩
theorem ix_T {ds : List D} {i : Int} (h : atI ds i = some z) : Ix X om (.tup ds) (.int i) z := .of ix_tup fun H v u S rx ry Q q => by
  cases ry
  obtain ⟨p, xs, rfl, h1, r1⟩ := tup_rep rx
  obtain ⟨w, h2, rw⟩ := atI_rep r1 h
  exact ⟨p, xs, i, w, rfl, rfl, h1, h2, q w rw⟩
theorem ix_S {s : Str} {i : Int} {c : Nat} (hl : s.length ≤ sizeLine) (h : atI s.cps.toList i = some c) : Ix X om (.str s) (.int i) (.str ⟨#[c]⟩) := .of ix_str fun H v u S rx ry Q q => by
  cases rx; cases ry
  exact ⟨s, i, c, rfl, rfl, hl, h, q _ rfl⟩
theorem scr_rep {H : Hp} {K : PySem.W.Frag} {ns : List Int} {v : V} (r : Rep K om H (.scr ns) v) : ∃ p, v = .ref p ∧ SqL K H p (ns.map V.int) := by
  obtain ⟨p, e, h⟩ := r
  exact ⟨p, e, h.elim (fun h => .inl h.2) .inr⟩
theorem ix_scr {ns : List Int} {i j : Int} (h : atI ns i = some j) : Ix X om (.scr ns) (.int i) (.int j) := .of ix_list fun H v u S rx ry Q q => by
  cases ry
  obtain ⟨p, rfl, h1⟩ := scr_rep rx
  refine ⟨p, _, i, .int j, rfl, rfl, h1, ?_, q _ rfl⟩
  unfold atI at h ⊢
  rw [List.length_map]
  cases e : ixN ns.length i with
  | none => rw [e] at h; cases h
  | some j =>
    rw [e] at h
    show (ns.map V.int)[j]? = _
    rw [List.getElem?_map]
    rw [show ns[j]? = _ from h]
    rfl
theorem ix_dI {p : Addr} {kvs : List (Key × D)} {i : Int} (h : om p = some (.dct kvs)) (hz : (kvs.find? fun kv => decide (kv.1 = .inl i)).map (·.2) = some z) : Ix X om (.obj p) (.int i) z :=
  .dct p kvs (.inl i) rfl h (fun _ _ r => r) hz
theorem ix_dS {p : Addr} {kvs : List (Key × D)} {i : Str} (h : om p = some (.dct kvs)) (hz : (kvs.find? fun kv => decide (kv.1 = .inr i)).map (·.2) = some z) : Ix X om (.obj p) (.str i) z :=
  .dct p kvs (.inr i) rfl h (fun _ _ r => r) hz

/-! ### slices -/
def wSl (X : Cx) : V → Option Int → Option Int → Hp → VK → Prop := fun x lo hi H Q => ∀ (pins : List (Addr × Obj)) (s : Shared) (σ : L2.St) (v vl vu : Value) (sl : Addr), Inv X pins σ H s → RelV x v → s.heap.IsSliceOf sl vl vu .none → IsPart vl lo → IsPart vu hi →
    ∃ T id, typeLookup (.type T) "__getitem__" = pure (some (.builtin id)) ∧ s.TypeIs v T ∧ wpAny (model X.prog X.w) X.A (getItem v (.ref sl)) (EP X pins σ Q) X.xe s
theorem wSl_sl : SlR X (wSl X) := fun pins s σ H x v vl vu lo hi sl Q I rx hs pl pu q => q pins s σ v vl vu sl I rx hs pl pu
theorem wSl_of {r : V → Option Int → Option Int → Hp → VK → Prop} (h : SlR X r) {x : V} {lo hi : Option Int} {H : Hp} {Q : VK} (q : r x lo hi H Q) : wSl X x lo hi H Q := fun pins s σ v vl vu sl I rx hs pl pu => h pins s σ H x v vl vu lo hi sl Q I rx hs pl pu q
/-- a part of a slice -/
def wo (X : Cx) (R : RX) (ro : Ro) (om : Om) (e : Option Expr) (o : Option Int) : Prop := match e with
  | none => o = none
  | some e => ∃ i, o = some i ∧ wv X ro om e (.int i)
/-- x[lo:hi] is z -/
structure Sl (X : Cx) (om : Om) (x : D) (lo hi : Option Int) (z : D) : Prop where
  go : ∀ (H : Hp) (v : V), StoreOk X.K om H → Rep X.K om H x v → ∀ Q : VK, (∀ w H', StoreOk X.K om H' → Stable om H om H' → Rep X.K om H' z w → Q w H') → wSl X v lo hi H Q
instance {X : Cx} {om : Om} {x : D} {lo hi : Option Int} {z : D} : CoeFun (Sl X om x lo hi z) (fun _ => ∀ (H : Hp) (v : V), StoreOk X.K om H → Rep X.K om H x v → ∀ Q : VK, (∀ w H', StoreOk X.K om H' → Stable om H om H' → Rep X.K om H' z w → Q w H') → wSl X v lo hi H Q) := ⟨Sl.go⟩
def vpo (X : Cx) (ro : Ro) (om : Om) (e : Option Expr) (o : Option Int) : Prop := match e with
  | none => o = none
  | some e => ∃ i, o = some i ∧ wv X ro om e (.int i)
theorem po_no : vpo X ro om none none := rfl
theorem po_at {i : Int} (h : wv X ro om e (.int i)) : vpo X ro om (some e) (some i) := ⟨i, rfl, h⟩
def pO (X : Cx) (e : Option Expr) : TO := fun σ H Q => match e with
  | none => Q none H
  | some e => pE X e σ H fun x H1 => ∃ i, x = .int i ∧ Q (some i) H1
theorem pO_po : ∀ e : Option Expr, PO X e (pO X e)
  | none => po_none
  | some e => po_some pE_pe
theorem vpo_run {lo : Option Int} {eo : Option Expr} (h : vpo X ro om eo lo) {om0 : Om} {H0 : Hp} (t : Tk X om0 H0 R) {σ : L2.St} {H : Hp} (o : Ok X.K om0 H0 om H σ ro) {Q : Option Int → Hp → Prop} (q : ∀ H', Ok X.K om0 H0 om H' σ ro → Stable om H om H' → Q lo H') : pO X eo σ H Q := by
  cases eo with
  | none => cases (show lo = none from h); exact q H o Stable.refl
  | some e =>
    obtain ⟨i, rfl, hv⟩ := h
    refine pE_mono (hv R (fun d om' => d = .int i ∧ om' = om) ⟨rfl, rfl⟩ om H (t.at o.stab) σ H ⟨o.store, Stable.refl, o.slot, o.len⟩) fun v H1 ⟨d, om1, ⟨e1, e2⟩, o1, r1⟩ => ?_
    subst e1 e2
    exact ⟨i, r1, q H1 ⟨o1.store, o.stab.trans o1.stab, o1.slot, o1.len⟩ o1.stab⟩
theorem v_sl {lo hi : Option Int} {el eh : Option Expr} {p2 : Pos} (h : wv X ro om a x) (hl : vpo X ro om el lo) (hh : vpo X ro om eh hi) (o : Sl X om x lo hi z) : wv X ro om (.Subscript a (.Slice el eh none p2) pos) z := .mk fun R Q q => .mk fun om0 H0 t σ H ok => by
  refine pE_of (pe_slice wSl_sl pE_pe (pO_po el) (pO_po eh)) ?_
  refine pE_mono (h R (fun x' om1 => x' = x ∧ om1 = om) ⟨rfl, rfl⟩ om0 H0 t σ H ok) fun v H1 ⟨x', om1, ⟨e1, e2⟩, o1, r⟩ => ?_
  subst e1 e2
  refine vpo_run hl t o1 fun H2 o2 s2 => vpo_run hh t o2 fun H3 o3 s3 => ?_
  exact o H3 v o3.store ((r.mono s2).mono s3) _ fun w H' S s rw => ⟨z, om1, q, o3.to S s, rw⟩
/-- the cut of a list -/
def cut {α : Type} (xs : List α) (lo hi : Option Int) : List α := (xs.drop (HT.sIx xs.length 0 lo)).take (HT.sIx xs.length xs.length hi - HT.sIx xs.length 0 lo)
theorem cut_rep {K : PySem.W.Frag} {H : Hp} {ds : List D} {xs : List V} (r : RepL K om H ds xs) (lo hi : Option Int) : RepL K om H (cut ds lo hi) (cutV xs lo hi) := by
  unfold cut cutV
  rw [r.length]
  exact (r.drop _).take _
theorem cut_map {α β : Type} (g : α → β) (xs : List α) (lo hi : Option Int) : cut (xs.map g) lo hi = (cut xs lo hi).map g := by
  unfold cut
  rw [List.length_map, List.map_take, List.map_drop]
theorem s_L {ds : List D} {lo hi : Option Int} (l : Lr om x ds) : Sl X om x lo hi (.lst (cut ds lo hi)) := .mk fun H v S r Q q => by
  obtain ⟨p, xs, rfl, h1, r1⟩ := l.rep S r
  exact wSl_of sl_list ⟨p, xs, rfl, SqL.of h1, fun t n => q _ _ (S.new n) (Stable.new n) (new_lst S n (cut_rep r1 lo hi))⟩
theorem s_scr {ns : List Int} {lo hi : Option Int} : Sl X om (.scr ns) lo hi (.lst ((cut ns lo hi).map .int)) := .mk fun H v S r Q q => by
  obtain ⟨p, rfl, h1⟩ := scr_rep r
  refine wSl_of sl_list ⟨p, _, rfl, h1, fun t n => q _ _ (S.new n) (Stable.new n) ?_⟩
  have e : cutV (ns.map V.int) lo hi = (cut ns lo hi).map V.int := cut_map V.int ns lo hi
  rw [e]
  exact new_lst S n RepL.of_ints
theorem s_S {s : Str} {lo hi : Option Int} (h : s.length ≤ sizeLine) : Sl X om (.str s) lo hi (.str (cutS s lo hi)) := .mk fun H v S r Q q => by
  cases r
  exact wSl_of sl_str ⟨s, rfl, h, q _ _ S Stable.refl rfl⟩
end
end Mo

set_option Elab.async false
set_option linter.all false
set_option maxRecDepth 100000
set_option maxHeartbeats 4000000
set_option autoImplicit false
/-! New lists, displays, calls of built-ins, methods, tests, statements over data. -/
namespace Mo
open PySem PySem.Spec PyProof.Rows L2

section
variable {X : Cx} {R : RX} {ro : Ro} {om : Om} {e a b c : Expr} {es : List Expr} {st : Stmt} {sts : List Stmt} {F : De} {pos : Pos} {x y z : D} {f : Value → Value → Sem Value}

/-! ### a new list, as an object of the store; as a tree -/
/-- e makes a new list of ds -/
structure wn (X : Cx) (ro : Ro) (om : Om) (e : Expr) (ds : List D) : Prop where
  go : ∀ (R : RX) (Q : DK), (∀ p, om p = none → Q (.obj p) (ups om p (.lst ds))) → we X R ro om e Q
instance {X : Cx} {ro : Ro} {om : Om} {e : Expr} {ds : List D} : CoeFun (wn X ro om e ds) (fun _ => ∀ (R : RX) (Q : DK), (∀ p, om p = none → Q (.obj p) (ups om p (.lst ds))) → we X R ro om e Q) := ⟨wn.go⟩
theorem Ok.tree {K : PySem.W.Frag} {om0 om1 : Om} {H0 H : Hp} {σ : L2.St} {p : Addr} {ds : List D} (o : Ok K om0 H0 om H σ ro) (h : om p = some (.lst ds)) :
    Ok K om0 H0 (dels om p) H σ ro ∧ Rep K (dels om p) H (.lst ds) (.ref p) := by
  refine ⟨o.to o.store.del Stable.del, ?_⟩
  obtain ⟨xs, h1, r⟩ := o.store _ _ h
  exact ⟨p, xs, rfl, ⟨dels_same, h1⟩, r.mono Stable.del⟩
theorem wn.v {ds : List D} (h : wn X ro om e ds) : wv X ro om e (.lst ds) := .mk fun R Q q => .mk fun om0 H0 t σ H o => by
  refine pE_mono (h R (fun d om1 => ∃ p, d = .obj p ∧ om p = none ∧ om1 = ups om p (.lst ds)) (fun p hp => ⟨p, rfl, hp, rfl⟩) om0 H0 t σ H o) fun v H1 ⟨d, om1, ⟨p, e1, e2, e3⟩, o1, r⟩ => ?_
  subst e1 e3
  cases r
  obtain ⟨o2, r2⟩ := o1.tree (om1 := om) ups_same
  rw [dels_ups e2] at o2 r2
  exact ⟨_, _, q, o2, r2⟩
theorem Ok.newl {K : PySem.W.Frag} {om0 : Om} {H0 H : Hp} {σ : L2.St} {p : Addr} {ds : List D} {xs : List V} (o : Ok K om0 H0 om H σ ro) (n : H p = none) (r : RepL K om H ds xs) : Ok K om0 H0 (ups om p (.lst ds)) (upd H p (.lst xs)) σ ro :=
  o.to (o.store.mk n ⟨xs, upd_same, r.mono (Stable.mk n)⟩) (Stable.mk n)

theorem n_lst {ds : List D} (h : wav X ro om es ds) (hl : ds.length ≤ sizeLine := by simp [sizeLine_eq]) : wn X ro om (.List es pos) ds := .mk fun R Q q => .mk fun om0 H0 t σ H o => by
  refine pE_of (pe_lst pA_pa) ?_
  refine pA_mono (h R (fun ds' om1 => ds' = ds ∧ om1 = om) ⟨rfl, rfl⟩ om0 H0 t σ H o) fun vs H1 ⟨ds', om1, ⟨e1, e2⟩, o1, r⟩ => ?_
  subst e1 e2
  exact ⟨by rw [← r.length]; exact hl, fun p n => ⟨_, _, q p (o1.store.fresh n), o1.newl n r, rfl⟩⟩
theorem v_lst {ds : List D} (h : wav X ro om es ds) (hl : ds.length ≤ sizeLine := by simp [sizeLine_eq]) : wv X ro om (.List es pos) (.lst ds) := (n_lst h hl).v
theorem v_tup {ds : List D} {k : Nat} (h : wav X ro om es ds) (hl : ds.length ≤ sizeLine := by simp [sizeLine_eq]) : wv X ro om (.Tuple es k pos) (.tup ds) := .mk fun R Q q => .mk fun om0 H0 t σ H o => by
  refine pE_of (pe_tup pA_pa) ?_
  refine pA_mono (h R (fun ds' om1 => ds' = ds ∧ om1 = om) ⟨rfl, rfl⟩ om0 H0 t σ H o) fun vs H1 ⟨ds', om1, ⟨e1, e2⟩, o1, r⟩ => ?_
  subst e1 e2
  exact ⟨by rw [← r.length]; exact hl, fun p n => ⟨_, _, q, o1.to (o1.store.new n) (Stable.new n), new_tup o1.store n r⟩⟩
theorem e_tup {Q : DK} {k : Nat} (h : wa X R ro om es fun ds om1 => ds.length ≤ sizeLine ∧ Q (.tup ds) om1) : we X R ro om (.Tuple es k pos) Q := .mk fun om0 H0 t σ H o => by
  refine pE_of (pe_tup pA_pa) ?_
  refine pA_mono (h om0 H0 t σ H o) fun vs H1 ⟨ds', om1, ⟨hl, q⟩, o1, r⟩ => ?_
  exact ⟨by rw [← r.length]; exact hl, fun p n => ⟨_, _, q, o1.to (o1.store.new n) (Stable.new n), new_tup o1.store n r⟩⟩
theorem e_lst {Q : DK} (h : wa X R ro om es fun ds om1 => ds.length ≤ sizeLine ∧ Q (.lst ds) om1) : we X R ro om (.List es pos) Q := .mk fun om0 H0 t σ H o => by
  refine pE_of (pe_lst pA_pa) ?_
  refine pA_mono (h om0 H0 t σ H o) fun vs H1 ⟨ds', om1, ⟨hl, q⟩, o1, r⟩ => ?_
  exact ⟨by rw [← r.length]; exact hl, fun p n => ⟨_, _, q, o1.to (o1.store.new n) (Stable.new n), new_lst o1.store n r⟩⟩
theorem e_lstN {Q : DK} (h : wa X R ro om es fun ds om1 => ds.length ≤ sizeLine ∧ ∀ p, om1 p = none → Q (.obj p) (ups om1 p (.lst ds))) : we X R ro om (.List es pos) Q := .mk fun om0 H0 t σ H o => by
  refine pE_of (pe_lst pA_pa) ?_
  refine pA_mono (h om0 H0 t σ H o) fun vs H1 ⟨ds', om1, ⟨hl, q⟩, o1, r⟩ => ?_
  exact ⟨by rw [← r.length]; exact hl, fun p n => ⟨_, _, q p (o1.store.fresh n), o1.newl n r, rfl⟩⟩

/-! ### slices, sums of lists, as new lists -/
/-- x[lo:hi] is a new list -/
structure SlN (X : Cx) (om : Om) (x : D) (lo hi : Option Int) (ds : List D) : Prop where
  go : ∀ (om0 : Om) (H0 : Hp) (σ : L2.St) (ro : Ro) (H : Hp) (v : V), Ok X.K om0 H0 om H σ ro → Rep X.K om H x v → ∀ Q : VK,   (∀ p H', om p = none → Ok X.K om0 H0 (ups om p (.lst ds)) H' σ ro → Q (.ref p) H') → wSl X v lo hi H Q
instance {X : Cx} {om : Om} {x : D} {lo hi : Option Int} {ds : List D} : CoeFun (SlN X om x lo hi ds) (fun _ => ∀ (om0 : Om) (H0 : Hp) (σ : L2.St) (ro : Ro) (H : Hp) (v : V), Ok X.K om0 H0 om H σ ro → Rep X.K om H x v → ∀ Q : VK,   (∀ p H', om p = none → Ok X.K om0 H0 (ups om p (.lst ds)) H' σ ro → Q (.ref p) H') → wSl X v lo hi H Q) := ⟨SlN.go⟩
theorem n_sl {lo hi : Option Int} {el eh : Option Expr} {p2 : Pos} {ds : List D} (h : wv X ro om a x) (hl : vpo X ro om el lo) (hh : vpo X ro om eh hi) (o : SlN X om x lo hi ds) : wn X ro om (.Subscript a (.Slice el eh none p2) pos) ds := .mk fun R Q q => .mk fun om0 H0 t σ H ok => by
  refine pE_of (pe_slice wSl_sl pE_pe (pO_po el) (pO_po eh)) ?_
  refine pE_mono (h R (fun x' om1 => x' = x ∧ om1 = om) ⟨rfl, rfl⟩ om0 H0 t σ H ok) fun v H1 ⟨x', om1, ⟨e1, e2⟩, o1, r⟩ => ?_
  subst e1 e2
  refine vpo_run hl t o1 fun H2 o2 s2 => vpo_run hh t o2 fun H3 o3 s3 => ?_
  exact o om0 H0 σ ro H3 v o3 ((r.mono s2).mono s3) _ fun p H' n o' => ⟨_, _, q p n, o', rfl⟩
theorem sn_L {ds : List D} {lo hi : Option Int} (l : Lr om x ds) : SlN X om x lo hi (cut ds lo hi) := .mk fun om0 H0 σ ro H v o r Q q => by
  obtain ⟨p, xs, rfl, h1, r1⟩ := l.rep o.store r
  exact wSl_of sl_list ⟨p, xs, rfl, SqL.of h1, fun t n => q _ _ (o.store.fresh n) (o.newl n (cut_rep r1 lo hi))⟩
theorem sn_scr {ns : List Int} {lo hi : Option Int} : SlN X om (.scr ns) lo hi ((cut ns lo hi).map .int) := .mk fun om0 H0 σ ro H v o r Q q => by
  obtain ⟨p, rfl, h1⟩ := scr_rep r
  refine wSl_of sl_list ⟨p, _, rfl, h1, fun t n => q _ _ (o.store.fresh n) ?_⟩
  have e : cutV (ns.map V.int) lo hi = (cut ns lo hi).map V.int := cut_map V.int ns lo hi
  rw [e]
  exact o.newl n RepL.of_ints
/-- a tuple's cut, not the whole of it -/
theorem s_T {ds : List D} {lo hi : Option Int} (h : ¬ (HT.sIx ds.length 0 lo = 0 ∧ HT.sIx ds.length ds.length hi = ds.length)) : Sl X om (.tup ds) lo hi (.tup (cut ds lo hi)) := .mk fun H v S r Q q => by
  obtain ⟨p, xs, rfl, h1, r1⟩ := tup_rep r
  exact wSl_of sl_tup ⟨p, xs, rfl, h1, by rw [← r1.length]; exact h, fun t n => q _ _ (S.new n) (Stable.new n) (new_tup S n (cut_rep r1 lo hi))⟩
theorem n_add {ds es : List D} {ea eb : Expr} (h : wv X ro om ea x) (k : wv X ro om eb y) (l : Lr om x ds) (m : Lr om y es) (hz : ds.length + es.length ≤ sizeLine) : wn X ro om (.BinOp ea .Add eb pos) (ds ++ es) := .mk fun R Q q =>
  e_op (h R _ (k R _ fun om0 H0 σ ro H v u o rx ry => by
    obtain ⟨p, xs, rfl, h1, r1⟩ := l.rep o.store rx
    obtain ⟨p', ys, rfl, h2, r2⟩ := m.rep o.store ry
    exact wR_of op_cat ⟨p, p', xs, ys, rfl, rfl, h1, h2, by rw [← r1.length, ← r2.length]; exact hz, fun t n => ⟨_, _, q t (o.store.fresh n), o.newl n (r1.app r2), rfl⟩⟩))

/-! ### calls of built-ins -/
def wC (X : Cx) (f : Value) : List V → Hp → VK → Prop := fun xs H Q => ∀ (pins : List (Addr × Obj)) (s : Shared) (σ : L2.St) (us : List Value), Inv X pins σ H s → Vals xs us → wpAny (model X.prog X.w) X.A (call f us) (EP X pins σ Q) X.xe s
theorem wC_c {f : Value} : CallR X f (wC X f) := fun pins s σ H xs us Q I r h => h pins s σ us I r
theorem wC_of {f : Value} {r : List V → Hp → VK → Prop} (h : CallR X f r) {xs : List V} {H : Hp} {Q : VK} (q : r xs H Q) : wC X f xs H Q := fun pins s σ us I rv => h pins s σ H xs us Q I rv q
/-- the built-in f, on ds, in the store om -/
def C2 (X : Cx) (om : Om) (f : Value) (ds : List D) (Q : DK) : Prop := ∀ (om0 : Om) (H0 : Hp) (σ : L2.St) (ro : Ro) (H : Hp) (vs : List V), Ok X.K om0 H0 om H σ ro → RepL X.K om H ds vs →
  wC X f vs H fun w H' => ∃ d om', Q d om' ∧ Ok X.K om0 H0 om' H' σ ro ∧ Rep X.K om' H' d w
/-- the name of a built-in -/
inductive Bi (X : Cx) (x : Str) : Value → Prop
  | fn (id : String) (hm : X.mg x = none) (hv : bootBuiltins x = some (.builtin id)) (hn : x ≠ "__name__") (hd : (x == ("__debug__" : Str)) = false) : Bi X x (.builtin id)
  | ty (T : String) (hm : X.mg x = none) (hv : bootBuiltins x = some (.type T)) (hn : x ≠ "__name__") (hd : (x == ("__debug__" : Str)) = false) : Bi X x (.type T)
theorem e_bi {fn : Str} {g : Value} {p : Pos} {Q : DK} (B : Bi X fn g) (h : wa X R ro om (e :: es) fun ds om1 => C2 X om1 g ds Q) (hg : Gl X fn) (he : starEach (e :: es) X.env = (false, eval e X.env) :: starEach es X.env := by rfl)
    (hpl : (backTo pos (starEach es X.env)).any (·.1) = false := by rfl) : we X R ro om (.Call (.Name fn p) (e :: es) [] pos) Q := .mk fun om0 H0 t σ H o => by
  have k : ∀ vs H1, (∃ ds om1, C2 X om1 g ds Q ∧ Ok X.K om0 H0 om1 H1 σ ro ∧ RepL X.K om1 H1 ds vs) → wC X g vs H1 fun w H' => ∃ d om', Q d om' ∧ Ok X.K om0 H0 om' H' σ ro ∧ Rep X.K om' H' d w :=
    fun vs H1 ⟨ds, om1, q, o1, r⟩ => q om0 H0 σ ro H1 vs o1 r
  cases B with
  | fn id hm hv hn hd => exact pE_of (pe_callB wC_c hg hm hv pA_pa hn hd he hpl) (pA_mono (h om0 H0 t σ H o) k)
  | ty T hm hv hn hd => exact pE_of (pe_callTy wC_c hg hm hv pA_pa hn hd he hpl) (pA_mono (h om0 H0 t σ H o) k)
/-- f(ds) is z -/
structure Cv (X : Cx) (om : Om) (f : Value) (ds : List D) (z : D) : Prop where
  go : ∀ Q : DK, Q z om → C2 X om f ds Q
instance {X : Cx} {om : Om} {f : Value} {ds : List D} {z : D} : CoeFun (Cv X om f ds z) (fun _ => ∀ Q : DK, Q z om → C2 X om f ds Q) := ⟨Cv.go⟩
structure Cn (X : Cx) (om : Om) (f : Value) (ds : List D) (zs : List D) : Prop where
  go : ∀ Q : DK, (∀ p, om p = none → Q (.obj p) (ups om p (.lst zs))) → C2 X om f ds Q
instance {X : Cx} {om : Om} {f : Value} {ds : List D} {zs : List D} : CoeFun (Cn X om f ds zs) (fun _ => ∀ Q : DK, (∀ p, om p = none → Q (.obj p) (ups om p (.lst zs))) → C2 X om f ds Q) := ⟨Cn.go⟩
theorem v_bi {fn : Str} {g : Value} {p : Pos} {ds : List D} (h : wav X ro om (e :: es) ds) (B : Bi X fn g) (c : Cv X om g ds z) (hg : Gl X fn) (he : starEach (e :: es) X.env = (false, eval e X.env) :: starEach es X.env := by rfl)
    (hpl : (backTo pos (starEach es X.env)).any (·.1) = false := by rfl) : wv X ro om (.Call (.Name fn p) (e :: es) [] pos) z := .mk fun R Q q => e_bi B (h R _ (c Q q)) hg he hpl
theorem n_bi {fn : Str} {g : Value} {p : Pos} {ds zs : List D} (h : wav X ro om (e :: es) ds) (B : Bi X fn g) (c : Cn X om g ds zs) (hg : Gl X fn) (he : starEach (e :: es) X.env = (false, eval e X.env) :: starEach es X.env := by rfl)
    (hpl : (backTo pos (starEach es X.env)).any (·.1) = false := by rfl) : wn X ro om (.Call (.Name fn p) (e :: es) [] pos) zs := .mk fun R Q q => e_bi B (h R _ (c Q q)) hg he hpl
theorem Cv.of {f : Value} {ds : List D} {r : List V → Hp → VK → Prop} (h : CallR X f r) (k : ∀ (H : Hp) (vs : List V), StoreOk X.K om H → RepL X.K om H ds vs → ∀ Q : VK, (∀ w, Rep X.K om H z w → Q w H) → r vs H Q) : Cv X om f ds z :=
  .mk fun Q q om0 H0 σ ro H vs o rv => wC_of h (k H vs o.store rv _ fun w rw => ⟨z, om, q, o, rw⟩)
theorem Cn.of {f : Value} {ds zs : List D} {r : List V → Hp → VK → Prop} (h : CallR X f r) (k : ∀ (H : Hp) (vs : List V), StoreOk X.K om H → RepL X.K om H ds vs → ∀ Q : VK, (∀ p xs, H p = none → RepL X.K om H zs xs → Q (.ref p) (upd H p (.lst xs))) → r vs H Q) : Cn X om f ds zs :=
  .mk fun Q q om0 H0 σ ro H vs o rv => wC_of h (k H vs o.store rv _ fun p xs n rx => ⟨_, _, q p (o.store.fresh n), o.newl n rx, rfl⟩)
theorem one_rep {K : PySem.W.Frag} {H : Hp} {vs : List V} (r : RepL K om H [x] vs) : ∃ v, vs = [v] ∧ Rep K om H x v := by
  obtain ⟨v, t, rfl, h, q⟩ := r
  cases q
  exact ⟨v, rfl, h⟩
theorem two_rep {K : PySem.W.Frag} {H : Hp} {vs : List V} (r : RepL K om H [x, y] vs) : ∃ v u, vs = [v, u] ∧ Rep K om H x v ∧ Rep K om H y u := by
  obtain ⟨v, t, rfl, h, u, t', rfl, h', q⟩ := r
  cases q
  exact ⟨v, u, rfl, h, h'⟩
theorem b_lenL {ds : List D} (l : Lr om x ds) : Cv X om (.builtin "len") [x] (.int ds.length) := .of call_len_seq fun H vs S r Q q => by
  obtain ⟨v, rfl, rx⟩ := one_rep r
  obtain ⟨p, xs, rfl, h1, r1⟩ := l.rep S rx
  exact ⟨p, xs, rfl, .inl (SqL.of h1), q _ (by rw [r1.length]; rfl)⟩
theorem b_lenT {ds : List D} : Cv X om (.builtin "len") [.tup ds] (.int ds.length) := .of call_len_seq fun H vs S r Q q => by
  obtain ⟨v, rfl, rx⟩ := one_rep r
  obtain ⟨p, xs, rfl, h1, r1⟩ := tup_rep rx
  exact ⟨p, xs, rfl, .inr h1, q _ (by rw [r1.length]; rfl)⟩
theorem b_lenC {ns : List Int} : Cv X om (.builtin "len") [.scr ns] (.int ns.length) := .of call_len_seq fun H vs S r Q q => by
  obtain ⟨v, rfl, rx⟩ := one_rep r
  obtain ⟨p, rfl, h1⟩ := scr_rep rx
  exact ⟨p, _, rfl, .inl h1, q _ (by rw [List.length_map]; rfl)⟩
theorem b_lenS {s : Str} (h : s.length ≤ sizeLine) : Cv X om (.builtin "len") [.str s] (.int s.length) := .of call_len_str fun H vs S r Q q => by
  obtain ⟨v, rfl, rx⟩ := one_rep r
  cases rx
  exact ⟨s, rfl, h, q _ rfl⟩
theorem b_lenD {p : Addr} {kvs : List (Key × D)} (h : om p = some (.dct kvs)) : Cv X om (.builtin "len") [.obj p] (.int kvs.length) := .of call_lenD fun H vs S r Q q => by
  obtain ⟨v, rfl, rx⟩ := one_rep r
  cases rx
  obtain ⟨kvs', h1, h2, h3⟩ := S _ _ h
  exact ⟨p, kvs', rfl, h1, q _ (by
    have e := congrArg List.length h2
    rw [List.length_map, List.length_map] at e
    rw [e]; rfl)⟩
theorem b_listL {ds : List D} (l : Lr om x ds) : Cn X om (.type "list") [x] ds := .of call_list_of fun H vs S r Q q => by
  obtain ⟨v, rfl, rx⟩ := one_rep r
  obtain ⟨p, xs, rfl, h1, r1⟩ := l.rep S rx
  exact ⟨p, xs, rfl, .inl (SqL.of h1), fun t n => q t xs n r1⟩
theorem b_max {i j : Int} (hc : X.calm = true) : Cv X om (.builtin "max") [.int i, .int j] (.int (if j > i then j else i)) := .of (call_max2 hc) fun H vs S r Q q => by
  obtain ⟨v, u, rfl, r1, r2⟩ := two_rep r
  cases r1; cases r2
  exact ⟨i, j, rfl, q _ rfl⟩
theorem b_min {i j : Int} (hc : X.calm = true) : Cv X om (.builtin "min") [.int i, .int j] (.int (if j < i then j else i)) := .of (call_min2 hc) fun H vs S r Q q => by
  obtain ⟨v, u, rfl, r1, r2⟩ := two_rep r
  cases r1; cases r2
  exact ⟨i, j, rfl, q _ rfl⟩
theorem b_intB {k : Bool} : Cv X om (.type "int") [.bl k] (.int (if k then 1 else 0)) := .of call_int1 fun H vs S r Q q => by
  obtain ⟨v, rfl, r1⟩ := one_rep r
  cases r1
  exact .inr ⟨k, rfl, q _ rfl⟩
theorem b_intS {s : Str} {n : Int} (h : PySem.intText? s = some n) (hl : s.length ≤ 640) : Cv X om (.type "int") [.str s] (.int n) := .of call_int_str fun H vs S r Q q => by
  obtain ⟨v, rfl, r1⟩ := one_rep r
  cases r1
  exact ⟨s, n, rfl, h, hl, q _ rfl⟩
theorem b_str {i : Int} (h : i.natAbs.log2 < 1920) : Cv X om (.type "str") [.int i] (.str (toString i)) := .of call_str_int fun H vs S r Q q => by
  obtain ⟨v, rfl, r1⟩ := one_rep r
  cases r1
  exact ⟨i, rfl, h, q _ rfl⟩
theorem b_any {bs : List Bool} (l : Lr om x (bs.map .bl)) (hc : X.calm = true) : Cv X om (.builtin "any") [x] (.bl (bs.any id)) := .of (cr_any hc) fun H vs S r Q q => by
  obtain ⟨v, rfl, rx⟩ := one_rep r
  obtain ⟨p, xs, rfl, h1, r1⟩ := l.rep S rx
  cases r1.bls
  exact ⟨p, bs, rfl, SqL.of h1, q _ rfl⟩
theorem b_all {bs : List Bool} (l : Lr om x (bs.map .bl)) (hc : X.calm = true) : Cv X om (.builtin "all") [x] (.bl (bs.all id)) := .of (cr_all hc) fun H vs S r Q q => by
  obtain ⟨v, rfl, rx⟩ := one_rep r
  obtain ⟨p, xs, rfl, h1, r1⟩ := l.rep S rx
  cases r1.bls
  exact ⟨p, bs, rfl, SqL.of h1, q _ rfl⟩
theorem b_sum {ns : List Int} (l : Lr om x (ns.map .int)) (hc : X.calm = true) : Cv X om (.builtin "sum") [x] (.int ns.sum) := .of (cr_sum hc) fun H vs S r Q q => by
  obtain ⟨v, rfl, rx⟩ := one_rep r
  obtain ⟨p, xs, rfl, h1, r1⟩ := l.rep S rx
  cases r1.ints
  exact ⟨p, ns, rfl, SqL.of h1, q _ rfl⟩

/-! ### isinstance -/
structure InsC (K : PySem.W.Frag) (C : Addr) : Prop where
  cl : Cls K C
  ha : PySem.W.findIn K (.ref C) "__class__" = some (some (.builtin "object.__class__"))
  hn : PySem.W.specialIn K (.builtin "object.__class__") "__get__" = some (some (.builtin "getset_descriptor.__get__"))
  htk : PySem.W.takesIn K (.builtin "object.__class__") = some true
  hm : PySem.W.mroIn K C (.type "object") = some true
/-- the type of data -/
inductive Ty (K : PySem.W.Frag) (om : Om) : D → Value → Prop
  | non : Ty K om .non (.type "NoneType")
  | bl {k : Bool} : Ty K om (.bl k) (.type "bool")
  | int {i : Int} : Ty K om (.int i) (.type "int")
  | str {s : Str} : Ty K om (.str s) (.type "str")
  | lst {x : D} {ds : List D} (l : Lr om x ds) : Ty K om x (.type "list")
  | tup {ds : List D} : Ty K om (.tup ds) (.type "tuple")
  | ins {p C : Addr} {fs : List (Str × D)} (h : om p = some (.ins C fs)) (c : InsC K C) : Ty K om (.obj p) (.ref C)
theorem Ty.tyx {K : PySem.W.Frag} {H : Hp} {t : Value} {v : V} (h : Ty K om x t) (S : StoreOk K om H) (r : Rep K om H x v) : TyX K H v t := by
  cases h with
  | non => cases r; exact .base .non
  | bl => cases r; exact .base (.bl _)
  | int => cases r; exact .base (.int _)
  | str => cases r; exact .base (.str _)
  | lst l =>
    obtain ⟨p, xs, rfl, h1, _⟩ := l.rep S r
    exact .base (.lst h1)
  | tup =>
    obtain ⟨p, xs, rfl, h | ⟨o, its, n, h1, h2, _⟩, _⟩ := r
    · exact .base (.tup h.2)
    · exact .kTuple h1 h2
  | ins h c =>
    cases r
    obtain ⟨dx, fs', h1, _⟩ := S _ _ h
    exact .base (.ins h1 c.cl c.ha c.hn c.htk c.hm)
/-- a class by its name -/
inductive Kl (X : Cx) (x : Str) : Value → Prop
  | ty (T : String) (hm : X.mg x = none) (hv : bootBuiltins x = some (.type T)) (hn : x ≠ "__name__") (hd : (x == ("__debug__" : Str)) = false) : Kl X x (.type T)
  | own (C : Addr) (hm : X.mg x = some (.ref C)) (hd : (x == ("__debug__" : Str)) = false) : Kl X x (.ref C)
theorem Kl.pe {xn : Str} {t : Value} {p : Pos} (k : Kl X xn t) (hg : Gl X xn) : ∃ v, ClsV v t ∧ PE X (.Name xn p) (tC v) := by
  cases k with
  | ty T hm hv hn hd => exact ⟨.ty T, .ty T, pe_bltn hg hm hv rfl hn hd⟩
  | own C hm hd => exact ⟨.ref C, .own C, pe_glob hg hm rfl hd⟩
theorem v_isi {cn : Str} {p p2 : Pos} {t u : Value} {k : Bool} (h : wv X ro om e x) (ty : Ty X.K om x t) (kl : Kl X cn u) (hk : PySem.W.kitOne X.K t u = some k) (B : Bi X "isinstance" (.builtin "isinstance")) (hg2 : Gl X cn) (hg : Gl X "isinstance")
    (he : starEach (e :: [.Name cn p2]) X.env = (false, eval e X.env) :: starEach [.Name cn p2] X.env := by rfl) (he2 : starEach [.Name cn p2] X.env = (false, eval (.Name cn p2) X.env) :: starEach [] X.env := by rfl)
    (hpl : (backTo pos (starEach [.Name cn p2] X.env)).any (·.1) = false := by rfl) : wv X ro om (.Call (.Name "isinstance" p) [e, .Name cn p2] [] pos) (.bl k) := .mk fun R Q q => .mk fun om0 H0 t' σ H o => by
  obtain ⟨v, cv, pe⟩ := kl.pe (p := p2) hg2
  cases B with
  | fn id hm hv hn hd =>
    refine pE_of (pe_callB call_isi hg hm hv (pa_cons pE_pe (pa_cons pe pa_nil he2) he) hn hd he hpl) ?_
    refine pE_mono (h R (fun d om' => d = x ∧ om' = om) ⟨rfl, rfl⟩ om0 H0 t' σ H o) fun w H1 ⟨d, om1, ⟨e1, e2⟩, o1, r1⟩ => ?_
    subst e1 e2
    exact ⟨w, v, t, u, k, rfl, cv, ty.tyx o1.store r1, hk, _, _, q, o1, rfl⟩

/-! ### methods of built-in types -/
def wM (X : Cx) (id : String) : V → List V → Hp → VK → Prop := fun x xs H Q => ∀ (pins : List (Addr × Obj)) (s : Shared) (σ : L2.St) (v : Value) (us : List Value), Inv X pins σ H s → RelV x v → Vals xs us → wpAny (model X.prog X.w) X.A (call (.builtin id) (v :: us)) (EP X pins σ Q) X.xe s
theorem wM_m {id : String} : MtR X id (wM X id) := fun pins s σ H x xs v us Q I rx rv h => h pins s σ v us I rx rv
theorem wM_of {id : String} {r : V → List V → Hp → VK → Prop} (h : MtR X id r) {v : V} {xs : List V} {H : Hp} {Q : VK} (q : r v xs H Q) : wM X id v xs H Q := fun pins s σ u us I rx rv => h pins s σ H v xs u us Q I rx rv q
def M2 (X : Cx) (om : Om) (id : String) (x : D) (ds : List D) (Q : DK) : Prop := ∀ (om0 : Om) (H0 : Hp) (σ : L2.St) (ro : Ro) (H : Hp) (v : V) (vs : List V), Ok X.K om0 H0 om H σ ro → Rep X.K om H x v → RepL X.K om H ds vs →
  wM X id v vs H fun w H' => ∃ d om', Q d om' ∧ Ok X.K om0 H0 om' H' σ ro ∧ Rep X.K om' H' d w
/-- whose methods x has -/
inductive Rc (om : Om) : D → String → Prop
  | str {s : Str} : Rc om (.str s) "str"
  | lst {x : D} {ds : List D} (l : Lr om x ds) : Rc om x "list"
  | dct {p : Addr} {kvs : List (Key × D)} (h : om p = some (.dct kvs)) : Rc om (.obj p) "dict"
theorem Rc.ty {K : PySem.W.Frag} {H : Hp} {T : String} {v : V} (h : Rc om x T) (S : StoreOk K om H) (r : Rep K om H x v) : tyV K T v H := by
  cases h with
  | str => cases r; rfl
  | lst l =>
    obtain ⟨p, xs, rfl, h1, _⟩ := l.rep S r
    exact .inl ⟨rfl, xs, SqL.of h1⟩
  | dct h =>
    cases r
    obtain ⟨kvs', h1, _⟩ := S _ _ h
    exact .inr (.inr (.inl ⟨rfl, .inl ⟨_, h1⟩⟩))
theorem e_bm {o : Expr} {T id : String} {name : Str} {apos cpos : Pos} {Q : DK} (pa : PlainAttrs T) (slot : Slot T name id) (hty : typeOf (.builtin id) = pure (.type "method_descriptor"))
    (h : we X R ro om o fun x om1 => Rc om1 x T ∧ wa X R ro om1 (e :: es) fun ds om2 => M2 X om2 id x ds Q)
    (hbase : attributeBase o name X.env (eval o X.env) = eval o X.env := by rfl)
    (hfew : ((backTo cpos (starEach (e :: es) X.env)).all (fun x => !x.1) && (backToKw cpos (keywordEach [] X.env)).all (fun x => x.1.isSome) && decide ((e :: es).length + ([] : List Keyword).length + (if ([] : List Keyword).isEmpty then 0 else 1) < 30)) = true := by rfl)
    (hline : (apos.endLine == cpos.line) = true := by rfl) (hs : starEach (e :: es) X.env = (false, eval e X.env) :: starEach es X.env := by rfl) (hplain : (backTo cpos (starEach es X.env)).any (·.1) = false := by rfl) :
    we X R ro om (.Call (.Attribute o name apos) (e :: es) [] cpos) Q := .mk fun om0 H0 t σ H ok => by
  refine pE_of (pe_bm pa slot hty wM_m pE_pe pA_pa hbase hfew hline hs hplain) ?_
  refine pE_mono (h om0 H0 t σ H ok) fun v H1 ⟨x, om1, ⟨rc, q⟩, o1, r⟩ => ⟨rc.ty o1.store r, ?_⟩
  refine pA_mono (q om1 H1 (t.at o1.stab) σ H1 ⟨o1.store, Stable.refl, o1.slot, o1.len⟩) fun vs H2 ⟨ds, om2, q2, o2, r2⟩ => ?_
  exact q2 om0 H0 σ ro H2 v vs ⟨o2.store, o1.stab.trans o2.stab, o2.slot, o2.len⟩ (r.mono o2.stab) r2
theorem e_bm0 {o : Expr} {T id : String} {name : Str} {apos cpos : Pos} {Q : DK} (pa : PlainAttrs T) (slot : Slot T name id) (hty : typeOf (.builtin id) = pure (.type "method_descriptor"))
    (h : we X R ro om o fun x om1 => Rc om1 x T ∧ M2 X om1 id x [] Q)
    (hbase : attributeBase o name X.env (eval o X.env) = eval o X.env := by rfl) (hline : (apos.endLine == cpos.line) = true := by rfl) : we X R ro om (.Call (.Attribute o name apos) [] [] cpos) Q := .mk fun om0 H0 t σ H ok => by
  refine pE_of (pe_bm0 pa slot hty wM_m pE_pe hbase hline) ?_
  refine pE_mono (h om0 H0 t σ H ok) fun v H1 ⟨x, om1, ⟨rc, q⟩, o1, r⟩ => ⟨rc.ty o1.store r, ?_⟩
  exact q om0 H0 σ ro H1 v [] o1 r rfl
theorem m_append {p : Addr} {ds : List D} {d : D} {Q : DK} (h : om p = some (.lst ds)) (hz : ds.length < sizeLine) (q : Q .non (ups om p (.lst (ds ++ [d])))) : M2 X om "list.append" (.obj p) [d] Q := fun om0 H0 σ ro H v vs o r rv => by
  cases r
  obtain ⟨u, rfl, ru⟩ := one_rep rv
  obtain ⟨xs, h1, r1⟩ := o.store _ _ h
  refine wM_of mt_append ⟨p, xs, u, rfl, rfl, h1, by rw [← r1.length]; exact hz, _, _, q, o.to (o.store.put h ⟨_, upd_same, (r1.app (RepL.one ru)).mono (Stable.put h)⟩) (Stable.put h), rfl⟩
theorem m_pop {p : Addr} {ds : List D} {d : D} {Q : DK} (h : om p = some (.lst ds)) (hd : ds[ds.length - 1]? = some d) (q : Q d (ups om p (.lst ds.dropLast))) : M2 X om "list.pop" (.obj p) [] Q := fun om0 H0 σ ro H v vs o r rv => by
  cases r
  cases rv
  obtain ⟨xs, h1, r1⟩ := o.store _ _ h
  obtain ⟨u, h2, ru⟩ := r1.get hd
  refine wM_of mt_pop ⟨p, xs, u, rfl, rfl, h1, by rw [← r1.length]; exact h2, _, _, q, o.to (o.store.put h ⟨_, upd_same, ?_⟩) (Stable.put h), ru.mono (Stable.put h)⟩
  rw [List.dropLast_eq_take, List.dropLast_eq_take, r1.length]
  exact (r1.take _).mono (Stable.put h)
theorem m_clear {p : Addr} {ds : List D} {Q : DK} (h : om p = some (.lst ds)) (q : Q .non (ups om p (.lst []))) : M2 X om "list.clear" (.obj p) [] Q := fun om0 H0 σ ro H v vs o r rv => by
  cases r
  cases rv
  obtain ⟨xs, h1, r1⟩ := o.store _ _ h
  exact wM_of mt_clear ⟨p, xs, rfl, rfl, h1, _, _, q, o.to (o.store.put h ⟨_, upd_same, rfl⟩) (Stable.put h), rfl⟩
theorem m_extend {p : Addr} {ds es : List D} {Q : DK} (h : om p = some (.lst ds)) (l : Lr om y es) (hz : ds.length + es.length ≤ sizeLine) (q : Q .non (ups om p (.lst (ds ++ es)))) : M2 X om "list.extend" (.obj p) [y] Q := fun om0 H0 σ ro H v vs o r rv => by
  cases r
  obtain ⟨u, rfl, ru⟩ := one_rep rv
  obtain ⟨xs, h1, r1⟩ := o.store _ _ h
  obtain ⟨p', ys, rfl, h2, r2⟩ := l.rep o.store ru
  refine wM_of mt_extend ⟨p, p', xs, ys, rfl, rfl, h1, h2, by rw [← r1.length, ← r2.length]; exact hz, _, _, q, o.to (o.store.put h ⟨_, upd_same, (r1.app r2).mono (Stable.put h)⟩) (Stable.put h), rfl⟩
theorem m_join {s : Str} {ss : List Str} {Q : DK} (l : Lr om y (ss.map .str)) (hz : (ss.map (·.length)).sum + ss.length * s.length ≤ 16777216) (q : Q (.str (Txt.join s ss)) om) : M2 X om "str.join" (.str s) [y] Q := fun om0 H0 σ ro H v vs o r rv => by
  cases r
  obtain ⟨u, rfl, ru⟩ := one_rep rv
  obtain ⟨p, xs, rfl, h1, r1⟩ := l.rep o.store ru
  cases r1.strs
  exact wM_of mt_join ⟨s, p, ss, rfl, rfl, .inl (SqL.of h1), hz, _, _, q, o, rfl⟩
theorem m_split {s t : Str} {Q : DK} (ht : (t.length == 0) = false) (hz : s.length + 2 ≤ sizeLine) (q : ∀ p, om p = none → Q (.obj p) (ups om p (.lst ((Txt.split s t).map .str)))) : M2 X om "str.split" (.str s) [.str t] Q := fun om0 H0 σ ro H v vs o r rv => by
  cases r
  obtain ⟨u, rfl, ru⟩ := one_rep rv
  cases ru
  exact wM_of mt_split ⟨s, t, rfl, rfl, ht, hz, fun p n => ⟨_, _, q p (o.store.fresh n), o.newl n RepL.of_strs, rfl⟩⟩
/-- method calls that are values, new lists -/
theorem v_join {o : Expr} {s : Str} {ss : List Str} {apos cpos : Pos} (h : wv X ro om o (.str s)) (k : wv X ro om e y) (l : Lr om y (ss.map .str)) (hz : (ss.map (·.length)).sum + ss.length * s.length ≤ 16777216) (hbase : attributeBase o "join" X.env (eval o X.env) = eval o X.env := by rfl)
    (hfew : ((backTo cpos (starEach [e] X.env)).all (fun x => !x.1) && (backToKw cpos (keywordEach [] X.env)).all (fun x => x.1.isSome) && decide ([e].length + ([] : List Keyword).length + (if ([] : List Keyword).isEmpty then 0 else 1) < 30)) = true := by rfl)
    (hline : (apos.endLine == cpos.line) = true := by rfl) (hs : starEach [e] X.env = (false, eval e X.env) :: starEach [] X.env := by rfl) (hplain : (backTo cpos (starEach [] X.env)).any (·.1) = false := by rfl) :
    wv X ro om (.Call (.Attribute o "join" apos) [e] [] cpos) (.str (Txt.join s ss)) := .mk fun R Q q =>
  e_bm F.plainAttrs_str F.slot_str_join F.type_str_join (h R _ ⟨.str, a_cons (k R _ (a_nil (m_join l hz q))) hs⟩) hbase hfew hline hs hplain
theorem n_split {o : Expr} {s t : Str} {apos cpos : Pos} (h : wv X ro om o (.str s)) (k : wv X ro om e (.str t)) (ht : (t.length == 0) = false) (hz : s.length + 2 ≤ sizeLine) (hbase : attributeBase o "split" X.env (eval o X.env) = eval o X.env := by rfl)
    (hfew : ((backTo cpos (starEach [e] X.env)).all (fun x => !x.1) && (backToKw cpos (keywordEach [] X.env)).all (fun x => x.1.isSome) && decide ([e].length + ([] : List Keyword).length + (if ([] : List Keyword).isEmpty then 0 else 1) < 30)) = true := by rfl)
    (hline : (apos.endLine == cpos.line) = true := by rfl) (hs : starEach [e] X.env = (false, eval e X.env) :: starEach [] X.env := by rfl) (hplain : (backTo cpos (starEach [] X.env)).any (·.1) = false := by rfl) :
    wn X ro om (.Call (.Attribute o "split" apos) [e] [] cpos) ((Txt.split s t).map .str) := .mk fun R Q q =>
  e_bm F.plainAttrs_str F.slot_str_split F.type_str_split (h R _ ⟨.str, a_cons (k R _ (a_nil (m_split ht hz q))) hs⟩) hbase hfew hline hs hplain
end
end Mo

set_option Elab.async false
set_option linter.all false
set_option maxRecDepth 100000
set_option maxHeartbeats 4000000
set_option autoImplicit false
/-! Tests, attributes, statements, calls of the text's own defs, loops, comprehensions. -/
namespace Mo
open PySem PySem.Spec PyProof.Rows L2

section
variable {X : Cx} {R : RX} {ro : Ro} {om : Om} {e a b c : Expr} {es : List Expr} {st : Stmt} {sts rest : List Stmt} {F : De} {pos : Pos} {x y z d : D}

/-! ### tests -/
theorem t_val {Q : Bool → Om → Prop} (h : we X R ro om e fun d om1 => ∃ k, d = .bl k ∧ Q k om1) (he : ∀ whole, isTrue e X.env whole = (do let v ← whole; standAt e.pos; holding [v] (truthy v)) := by intro _; rfl) : wt X R ro om e Q := .mk fun om0 H0 t σ H o => by
  refine pT_of (pt_val pE_pe he) ?_
  refine pE_mono (h om0 H0 t σ H o) fun v H1 ⟨d, om1, ⟨k, ek, q⟩, o1, r⟩ => ?_
  subst ek
  cases r
  exact ⟨k, rfl, om1, q, o1⟩
theorem tv_val {k : Bool} (h : wv X ro om e (.bl k)) (he : ∀ whole, isTrue e X.env whole = (do let v ← whole; standAt e.pos; holding [v] (truthy v)) := by intro _; rfl) : wtv X ro om e k := .mk fun R Q q => t_val (h R _ ⟨k, rfl, q⟩) he
theorem tv_not {k : Bool} (h : wtv X ro om e k) : wtv X ro om (.UnaryOp .Not e pos) (!k) := .mk fun R Q q => .mk fun om0 H0 t σ H o => by
  refine pT_of (pt_not pT_pt) ?_
  exact pT_mono (h R (fun k' om' => k' = k ∧ om' = om) ⟨rfl, rfl⟩ om0 H0 t σ H o) fun k' H1 ⟨om1, ⟨e1, e2⟩, o1⟩ => by
    subst e1 e2
    exact ⟨_, q, o1⟩
theorem v_not {k : Bool} (h : wv X ro om e (.bl k)) : wv X ro om (.UnaryOp .Not e pos) (.bl (!k)) := .mk fun R Q q => .mk fun om0 H0 t σ H o => by
  refine pE_of (pe_not pE_pe) ?_
  refine pE_mono (h R (fun k' om' => k' = .bl k ∧ om' = om) ⟨rfl, rfl⟩ om0 H0 t σ H o) fun v H1 ⟨d, om1, ⟨e1, e2⟩, o1, r1⟩ => ?_
  subst e1 e2
  exact ⟨k, r1, _, _, q, o1, rfl⟩
theorem v_neg {i : Int} (h : wv X ro om e (.int i)) : wv X ro om (.UnaryOp .USub e pos) (.int (-i)) := .mk fun R Q q => .mk fun om0 H0 t σ H o => by
  refine pE_of (pe_un un_neg pE_pe) ?_
  refine pE_mono (h R (fun k' om' => k' = .int i ∧ om' = om) ⟨rfl, rfl⟩ om0 H0 t σ H o) fun v H1 ⟨d, om1, ⟨e1, e2⟩, o1, r1⟩ => ?_
  subst e1 e2
  exact ⟨i, r1, _, _, q, o1, rfl⟩
/-- and, or, as tests -/
def pW (X : Cx) (e : Expr) : TT := fun σ H Q => ∀ (whole : Sem Value) (pins : List (Addr × Obj)) (s : Shared), Inv X pins σ H s → wpAny (model X.prog X.w) X.A (isTrue e X.env whole) (TP X pins σ Q) X.xe s
theorem pW_pw : PW X e (pW X e) := ⟨fun whole pins s _ _ _ I h => h whole pins s I⟩
theorem pW_of {t : TT} {σ : L2.St} {H : Hp} (h : PW X e t) {Q : Bool → Hp → Prop} (q : t σ H Q) : pW X e σ H Q := fun whole pins s I => h.run whole pins s σ H Q I q
theorem pW_mono {σ : L2.St} {H : Hp} {Q Q' : Bool → Hp → Prop} (h : pW X e σ H Q) (k : ∀ v H', Q v H' → Q' v H') : pW X e σ H Q' := fun whole pins s I => thn (h whole pins s I) fun u s' ⟨H', I', q⟩ => ⟨H', I', k u H' q⟩
structure wb (X : Cx) (ro : Ro) (om : Om) (op : BoolOp) (es : List Expr) (pos : Pos) (k : Bool) : Prop where
  go : ∀ (R : RX) (om0 : Om) (H0 : Hp), Tk X om0 H0 R → ∀ (σ : L2.St) (H : Hp), Ok X.K om0 H0 om H σ ro → pW X (.BoolOp op es pos) σ H fun k' H' => k' = k ∧ Ok X.K om0 H0 om H' σ ro
instance {X : Cx} {ro : Ro} {om : Om} {op : BoolOp} {es : List Expr} {pos : Pos} {k : Bool} : CoeFun (wb X ro om op es pos k) (fun _ => ∀ (R : RX) (om0 : Om) (H0 : Hp), Tk X om0 H0 R → ∀ (σ : L2.St) (H : Hp), Ok X.K om0 H0 om H σ ro → pW X (.BoolOp op es pos) σ H fun k' H' => k' = k ∧ Ok X.K om0 H0 om H' σ ro) := ⟨wb.go⟩
theorem tv_bool {op : BoolOp} {k : Bool} (h : wb X ro om op es pos k) : wtv X ro om (.BoolOp op es pos) k := .mk fun R Q q => .mk fun om0 H0 t σ H o =>
  pT_of (PW.pt pW_pw) (pW_mono (h R om0 H0 t σ H o) fun k' H' ⟨e1, o1⟩ => by subst e1; exact ⟨om, q, o1⟩)
theorem tv_run {k : Bool} (h : wtv X ro om e k) {om0 : Om} {H0 : Hp} (t : Tk X om0 H0 R) {σ : L2.St} {H : Hp} (o : Ok X.K om0 H0 om H σ ro) {Q : Bool → Hp → Prop} (q : ∀ H', Ok X.K om0 H0 om H' σ ro → Q k H') : pT X e σ H Q :=
  pT_mono (h R (fun k' om' => k' = k ∧ om' = om) ⟨rfl, rfl⟩ om0 H0 t σ H o) fun k' H1 ⟨om1, ⟨e1, e2⟩, o1⟩ => by subst e1 e2; exact q H1 o1
theorem v_run (h : wv X ro om e d) {om0 : Om} {H0 : Hp} (t : Tk X om0 H0 R) {σ : L2.St} {H : Hp} (o : Ok X.K om0 H0 om H σ ro) {Q : VK} (q : ∀ v H', Ok X.K om0 H0 om H' σ ro → Rep X.K om H' d v → Q v H') : pE X e σ H Q :=
  pE_mono (h R (fun k' om' => k' = d ∧ om' = om) ⟨rfl, rfl⟩ om0 H0 t σ H o) fun k' H1 ⟨d1, om1, ⟨e1, e2⟩, o1, r1⟩ => by subst e1 e2; exact q _ H1 o1 r1
theorem b_and1 {k : Bool} (h : wtv X ro om a k) : wb X ro om .And [a] pos k := .mk fun R om0 H0 t σ H o => pW_of (pw_and1 pT_pt) (tv_run h t o fun H' o' => ⟨rfl, o'⟩)
theorem b_or1 {k : Bool} (h : wtv X ro om a k) : wb X ro om .Or [a] pos k := .mk fun R om0 H0 t σ H o => pW_of (pw_or1 pT_pt) (tv_run h t o fun H' o' => ⟨rfl, o'⟩)
theorem b_and {k k' : Bool} (h : wtv X ro om a k) (g : k = true → wb X ro om .And (b :: es) pos k') : wb X ro om .And (a :: b :: es) pos (k && k') := .mk fun R om0 H0 t σ H o => by
  refine pW_of (pw_and pT_pt pW_pw) (tv_run h t o fun H' o' => ?_)
  cases k with
  | true => exact pW_mono (g rfl R om0 H0 t σ H' o') fun _ _ q => q
  | false => exact ⟨rfl, o'⟩
theorem b_or {k k' : Bool} (h : wtv X ro om a k) (g : k = false → wb X ro om .Or (b :: es) pos k') : wb X ro om .Or (a :: b :: es) pos (k || k') := .mk fun R om0 H0 t σ H o => by
  refine pW_of (pw_or pT_pt pW_pw) (tv_run h t o fun H' o' => ?_)
  cases k with
  | true => exact ⟨rfl, o'⟩
  | false => exact pW_mono (g rfl R om0 H0 t σ H' o') fun _ _ q => q
/-- and, or, as truth values -/
theorem v_bool1 {op : BoolOp} (h : wv X ro om a d) : wv X ro om (.BoolOp op [a] pos) d := .mk fun R Q q => .mk fun om0 H0 t σ H o => pE_of (pe_one pE_pe) (v_run h t o fun v H' o' r => ⟨_, _, q, o', r⟩)
theorem v_and {k k' : Bool} (h : wv X ro om a (.bl k)) (g : k = true → wv X ro om (.BoolOp .And (b :: es) pos) (.bl k')) : wv X ro om (.BoolOp .And (a :: b :: es) pos) (.bl (k && k')) := .mk fun R Q q => .mk fun om0 H0 t σ H o => by
  refine pE_of (pe_and pE_pe pE_pe) (v_run h t o fun v H' o' r => ⟨k, r, ?_⟩)
  cases k with
  | true => exact v_run (g rfl) t o' fun v H' o' r => ⟨_, _, q, o', r⟩
  | false => exact ⟨_, _, q, o', rfl⟩
theorem v_or {k k' : Bool} (h : wv X ro om a (.bl k)) (g : k = false → wv X ro om (.BoolOp .Or (b :: es) pos) (.bl k')) : wv X ro om (.BoolOp .Or (a :: b :: es) pos) (.bl (k || k')) := .mk fun R Q q => .mk fun om0 H0 t σ H o => by
  refine pE_of (pe_or pE_pe pE_pe) (v_run h t o fun v H' o' r => ⟨k, r, ?_⟩)
  cases k with
  | true => exact ⟨_, _, q, o', rfl⟩
  | false => exact v_run (g rfl) t o' fun v H' o' r => ⟨_, _, q, o', r⟩
/-- a op b op' c -/
theorem Op.run {f : Value → Value → Sem Value} (h : Op X om f x y z) {om0 : Om} {H0 : Hp} {σ : L2.St} {H : Hp} {v u : V} (o : Ok X.K om0 H0 om H σ ro) (rx : Rep X.K om H x v) (ry : Rep X.K om H y u) {Q : VK} (q : ∀ w H', Ok X.K om0 H0 om H' σ ro → Rep X.K om H' z w → Q w H') : wR X f v u H Q :=
  fun pins s σ' v' u' I rv ru => thn (h (fun d om' => d = z ∧ om' = om) ⟨rfl, rfl⟩ om0 H0 σ ro H v u o rx ry pins s σ' v' u' I rv ru) fun w s' ⟨w', H3, I3, rw, d, om3, ⟨e1, e2⟩, o3, r3⟩ => by
    subst e1 e2
    exact ⟨w', H3, I3, rw, q w' H3 o3 r3⟩
theorem v_chain {op op' : CmpOp} {k k' : Bool} (h : wv X ro om a x) (g : wv X ro om b y) (o1 : Op X om (compareOp op) x y (.bl k)) (g' : k = true → wv X ro om c z) (o2 : k = true → Op X om (compareOp op') y z (.bl k')) (hm : lastMarks [op, op'] [b, c] = false := by with_unfolding_all rfl) :
    wv X ro om (.Compare a [op, op'] [b, c] pos) (.bl (k && k')) := .mk fun R Q q => .mk fun om0 H0 t σ H o => by
  refine pE_of (pe_chain wR_op wR_op pE_pe pE_pe pE_pe hm) (v_run h t o fun v H1 ok1 r1 => ?_)
  refine v_run g (t.at ok1.stab) (om0 := om) (H0 := H1) ⟨ok1.store, Stable.refl, ok1.slot, ok1.len⟩ fun u H2 ok2 r2 => ?_
  refine o1.run (om0 := om) (H0 := H2) (σ := σ) (ro := ro) ⟨ok2.store, Stable.refl, ok2.slot, ok2.len⟩ (r1.mono ok2.stab) r2 fun w H3 ok3 r3 => ?_
  refine ⟨k, r3, ?_⟩
  have s3 : Stable om0 H0 om H3 := (ok1.stab.trans ok2.stab).trans ok3.stab
  cases k with
  | false => exact ⟨_, _, q, ⟨ok3.store, s3, ok3.slot, ok3.len⟩, rfl⟩
  | true =>
    refine v_run (g' rfl) (t.at s3) (om0 := om) (H0 := H3) ⟨ok3.store, Stable.refl, ok3.slot, ok3.len⟩ fun u4 H4 ok4 r4 => ?_
    refine (o2 rfl).run (om0 := om0) (H0 := H0) (σ := σ) (ro := ro) ⟨ok4.store, s3.trans ok4.stab, ok4.slot, ok4.len⟩ ((r2.mono ok3.stab).mono ok4.stab) r4 fun w5 H5 ok5 r5 => ⟨_, _, q, ok5, r5⟩
theorem tv_chain {op op' : CmpOp} {k k' : Bool} (h : wv X ro om a x) (g : wv X ro om b y) (o1 : Op X om (compareOp op) x y (.bl k)) (g' : k = true → wv X ro om c z) (o2 : k = true → Op X om (compareOp op') y z (.bl k')) (hm : lastMarks [op, op'] [b, c] = false := by with_unfolding_all rfl) :
    wtv X ro om (.Compare a [op, op'] [b, c] pos) (k && k') := .mk fun R Q q => .mk fun om0 H0 t σ H o => by
  refine pT_of (pt_chain wR_op wR_op pE_pe pE_pe pE_pe hm) (v_run h t o fun v H1 ok1 r1 => ?_)
  refine v_run g (t.at ok1.stab) (om0 := om) (H0 := H1) ⟨ok1.store, Stable.refl, ok1.slot, ok1.len⟩ fun u H2 ok2 r2 => ?_
  refine o1.run (om0 := om) (H0 := H2) (σ := σ) (ro := ro) ⟨ok2.store, Stable.refl, ok2.slot, ok2.len⟩ (r1.mono ok2.stab) r2 fun w H3 ok3 r3 => ?_
  refine ⟨k, r3, ?_⟩
  have s3 : Stable om0 H0 om H3 := (ok1.stab.trans ok2.stab).trans ok3.stab
  cases k with
  | false => exact ⟨_, rfl, _, q, ⟨ok3.store, s3, ok3.slot, ok3.len⟩⟩
  | true =>
    refine v_run (g' rfl) (t.at s3) (om0 := om) (H0 := H3) ⟨ok3.store, Stable.refl, ok3.slot, ok3.len⟩ fun u4 H4 ok4 r4 => ?_
    refine (o2 rfl).run (om0 := om0) (H0 := H0) (σ := σ) (ro := ro) ⟨ok4.store, s3.trans ok4.stab, ok4.slot, ok4.len⟩ ((r2.mono ok3.stab).mono ok4.stab) r4 fun w5 H5 ok5 r5 => ?_
    cases r5
    exact ⟨_, rfl, _, q, ok5⟩

/-! ### attributes -/
theorem lk_rep {K : PySem.W.Frag} {H : Hp} {f : Str} : ∀ {fs : List (Str × D)} {fs' : List (Str × V)}, fs'.map (·.1) = fs.map (·.1) → RepL K om H (fs.map (·.2)) (fs'.map (·.2)) → fs.lookup f = some z → ∃ w, fs'.lookup f = some w ∧ Rep K om H z w
  | [], _, _, _, h => by cases h
  | (g, d) :: r, [], e, _, _ => by simp at e
  | (g, d) :: r, (g', v) :: r', e, q, h => by
    simp only [List.map_cons, List.cons.injEq] at e
    obtain ⟨rfl, e⟩ := e
    obtain ⟨x, t, ex, q1, q2⟩ := q
    simp only [List.map_cons, List.cons.injEq] at ex
    obtain ⟨rfl, rfl⟩ := ex
    rw [List.lookup_cons] at h ⊢
    cases hg : f == g' with
    | true => rw [hg] at h; cases h; exact ⟨v, rfl, q1⟩
    | false => rw [hg] at h; exact lk_rep e q2 h
theorem lk_none {f : Str} : ∀ {fs : List (Str × D)} {fs' : List (Str × V)}, fs'.map (·.1) = fs.map (·.1) → fs.lookup f = none → fs'.lookup f = none
  | [], [], _, _ => rfl
  | [], _ :: _, e, _ => by simp at e
  | _ :: _, [], e, _ => by simp at e
  | (g, d) :: r, (g', v) :: r', e, h => by
    simp only [List.map_cons, List.cons.injEq] at e
    obtain ⟨rfl, e⟩ := e
    rw [List.lookup_cons] at h ⊢
    cases hg : f == g' with
    | true => rw [hg] at h; cases h
    | false => rw [hg] at h; exact lk_none e h
/-- what an attribute's read asks of the class -/
structure Att (K : PySem.W.Frag) (C : Addr) (f : Str) : Prop where
  cl : Cls K C
  no : NoAttr K C f
theorem v_fld {f : Str} {p C : Addr} {fs : List (Str × D)} (h : wv X ro om e (.obj p)) (hp : om p = some (.ins C fs)) (A : Att X.K C f) (hl : fs.lookup f = some z) (hb : attributeBase e f X.env (eval e X.env) = eval e X.env := by rfl) : wv X ro om (.Attribute e f pos) z := .mk fun R Q q => .mk fun om0 H0 t σ H o =>
  pE_of (pe_fld pE_pe hb) (v_run h t o fun v H' o' r => by
    cases r
    obtain ⟨dx, fs', h1, h2, h3⟩ := o'.store _ _ hp
    obtain ⟨w, h4, h5⟩ := lk_rep h2 h3 hl
    exact ⟨p, C, dx, fs', w, rfl, h1, A.cl, A.no, h4, _, _, q, o', h5⟩)
/-- the fields behind a store -/
def putD (f : Str) (d : D) : List (Str × D) → List (Str × D)
  | [] => [(f, d)]
  | (g, v) :: r => if g = f then (g, d) :: r else (g, v) :: putD f d r
end
end Mo

set_option Elab.async false
set_option linter.all false
set_option maxRecDepth 100000
set_option maxHeartbeats 4000000
set_option autoImplicit false
/-! Statements, calls of the text's own defs, loops, comprehensions. -/
namespace Mo
open PySem PySem.Spec PyProof.Rows L2

section
variable {X : Cx} {R : RX} {ro : Ro} {om : Om} {e a b c : Expr} {es : List Expr} {st : Stmt} {sts rest : List Stmt} {F : De} {pos : Pos} {x y z d : D}

/-! ### statements -/
theorem s_asg (i : Nat) {xn : Str} {pos' : Pos} (hi : X.N[i]? = some xn) (hx : Loc X.env.scope xn) (h : we X F.ex ro om e fun d om' => F.nx (ro.set i (some d)) om') (hN : X.N.Nodup) (hs : swapsWith e (some (.Name xn pos')) pos.line X.env = pure false := by rfl)
    (hf : X.fn xn = true ∨ X.env.scope.names.lookup xn = some .local := by first | exact .inl rfl | exact .inr rfl) : w1 X F ro om (.Assign [.Name xn pos'] e pos) := .mk fun om0 H0 t σ H o => by
  refine pS_of (ps_set (i := i) hN hi hx pE_pe hs hf) ?_
  exact pE_mono (h om0 H0 t σ H o) fun v H1 ⟨d, om1, q, o1, r⟩ => ⟨_, om1, q, o1.set i r⟩
theorem s_expr (h : we X F.ex ro om e fun _ om' => F.nx ro om') (hs : swapsWith e none pos.line X.env = pure false := by rfl) : w1 X F ro om (.Expr e pos) := .mk fun om0 H0 t σ H o => by
  refine pS_of (ps_expr pE_pe hs) ?_
  exact pE_mono (h om0 H0 t σ H o) fun v H1 ⟨d, om1, q, o1, r⟩ => ⟨ro, om1, q, o1⟩
theorem s_ret (h : we X F.ex ro om e F.rt) : w1 X F ro om (.Return (some e) pos) := .mk fun om0 H0 t σ H o => by
  refine pS_of (ps_ret pE_pe) ?_
  exact pE_mono (h om0 H0 t σ H o) fun v H1 ⟨d, om1, q, o1, r⟩ => ⟨d, om1, q, o1.store, o1.stab, r⟩
/-- an object of the store is handed back as a tree -/
theorem s_retL {p : Addr} {ds : List D} (h : wv X ro om e (.obj p)) (hp : om p = some (.lst ds)) (q : F.rt (.lst ds) (dels om p)) : w1 X F ro om (.Return (some e) pos) := .mk fun om0 H0 t σ H o => by
  refine pS_of (ps_ret pE_pe) (v_run h t o fun v H1 o1 r => ?_)
  cases r
  obtain ⟨o2, r2⟩ := o1.tree (om1 := om) hp
  exact ⟨_, _, q, o2.store, o2.stab, r2⟩
theorem s_retN (q : F.rt .non om) : w1 X F ro om (.Return none pos) := .mk fun om0 H0 t σ H o => pS_of ps_retN (show (ends X.K om0 H0 F).rt .non H from ⟨.non, om, q, o.store, o.stab, rfl⟩)
theorem s_if {k : Bool} {sa sb : List Stmt} (h : wtv X ro om c k) (h1 : k = true → ws X F ro om sa) (h2 : k = false → ws X F ro om sb) : w1 X F ro om (.If c sa sb pos) := .mk fun om0 H0 t σ H o => by
  refine pS_of (ps_if pT_pt pSs_ps pSs_ps) (tv_run h t o fun H1 o1 => ?_)
  cases k with
  | true => exact iteT (h1 rfl om0 H0 t σ H1 o1)
  | false => exact iteF (h2 rfl om0 H0 t σ H1 o1)
theorem s_ifE {sa sb : List Stmt} (h : wt X F.ex ro om c fun k om' => (k = true → ws X F ro om' sa) ∧ (k = false → ws X F ro om' sb)) : w1 X F ro om (.If c sa sb pos) := .mk fun om0 H0 t σ H o => by
  refine pS_of (ps_if pT_pt pSs_ps pSs_ps) (pT_mono (h om0 H0 t σ H o) fun k H1 ⟨om1, ⟨h1, h2⟩, o1⟩ => ?_)
  cases k with
  | true => exact iteT (h1 rfl om0 H0 t σ H1 o1)
  | false => exact iteF (h2 rfl om0 H0 t σ H1 o1)
theorem s_pass (q : F.nx ro om) : w1 X F ro om (.Pass pos) := .mk fun om0 H0 t σ H o => pS_of ps_pass (show (ends X.K om0 H0 F).nx σ H from ⟨ro, om, q, o⟩)
theorem s_brk (q : F.bk ro om) : w1 X F ro om (.Break pos) := .mk fun om0 H0 t σ H o => pS_of ps_break (show (ends X.K om0 H0 F).bk σ H from ⟨ro, om, q, o⟩)
theorem s_cont (q : F.ct ro om) : w1 X F ro om (.Continue pos) := .mk fun om0 H0 t σ H o => pS_of ps_continue (show (ends X.K om0 H0 F).ct σ H from ⟨ro, om, q, o⟩)
/-- an object in a slot becomes a tree -/
theorem ws_frz (i : Nat) {p : Addr} {ds : List D} (hi : ro[i]? = some (some (.obj p))) (hp : om p = some (.lst ds)) (h : ws X F (ro.set i (some (.lst ds))) (dels om p) sts) : ws X F ro om sts := .mk fun om0 H0 t σ H o => by
  obtain ⟨o2, r2⟩ := o.tree (om1 := om) hp
  obtain ⟨v, hv, rv⟩ := o.slot i _ hi
  cases rv
  refine h om0 H0 t σ H ⟨o2.store, o2.stab, fun j d hj => ?_, by rw [List.length_set]; exact o2.len⟩
  by_cases z : i = j
  · subst z
    have hl : i < ro.length := (List.getElem?_eq_some_iff.mp hi).1
    rw [List.getElem?_set_self hl] at hj
    cases hj
    exact ⟨_, hv, r2⟩
  · rw [List.getElem?_set_ne z] at hj
    exact o2.slot j d hj
theorem fs_put {K : PySem.W.Frag} {H : Hp} {f : Str} {v : V} : ∀ {fs : List (Str × D)} {fs' : List (Str × V)}, fs'.map (·.1) = fs.map (·.1) → RepL K om H (fs.map (·.2)) (fs'.map (·.2)) → Rep K om H d v →
    (putF f v fs').map (·.1) = (putD f d fs).map (·.1) ∧ RepL K om H ((putD f d fs).map (·.2)) ((putF f v fs').map (·.2))
  | [], [], _, _, r => ⟨rfl, RepL.one r⟩
  | [], _ :: _, e, _, _ => by simp at e
  | _ :: _, [], e, _, _ => by simp at e
  | (g, w) :: fs, (g', w') :: fs', e, q, r => by
    simp only [List.map_cons, List.cons.injEq] at e
    obtain ⟨rfl, e⟩ := e
    obtain ⟨u, t, eu, q1, q2⟩ := q
    simp only [List.map_cons, List.cons.injEq] at eu
    obtain ⟨rfl, rfl⟩ := eu
    unfold putF putD
    by_cases h : g' = f
    · rw [if_pos h, if_pos h]
      exact ⟨by simp [e], ⟨_, _, rfl, r, q2⟩⟩
    · rw [if_neg h, if_neg h]
      obtain ⟨h1, h2⟩ := fs_put e q2 r
      exact ⟨by simp [h1], ⟨_, _, rfl, q1, h2⟩⟩
theorem s_fld {o : Expr} {f : Str} {pos' : Pos} (h : we X F.ex ro om e fun d om1 => we X F.ex ro om1 o fun x om2 => ∃ p C fs, x = .obj p ∧ om2 p = some (.ins C fs) ∧ Att X.K C f ∧ fs.length < 1000 ∧ F.nx ro (ups om2 p (.ins C (putD f d fs))))
    (hs : swapsWith e (some (.Attribute o f pos')) pos.line X.env = pure false := by rfl) : w1 X F ro om (.Assign [.Attribute o f pos'] e pos) := .mk fun om0 H0 t σ H ok => by
  refine pS_of (ps_fld pE_pe pE_pe hs) ?_
  refine pE_mono (h om0 H0 t σ H ok) fun v H1 ⟨d, om1, q, o1, r⟩ => ?_
  refine pE_mono (q om1 H1 (t.at o1.stab) σ H1 ⟨o1.store, Stable.refl, o1.slot, o1.len⟩) fun u H2 ⟨x, om2, ⟨p, C, fs, e1, hp, A, hl, q2⟩, o2, r2⟩ => ?_
  subst e1
  cases r2
  obtain ⟨dx, fs', h1, h2, h3⟩ := o2.store _ _ hp
  obtain ⟨h4, h5⟩ := fs_put (f := f) h2 h3 (r.mono o2.stab)
  have hl' : fs'.length < 1000 := by
    have := congrArg List.length h2
    rw [List.length_map, List.length_map] at this
    omega
  have o3 : Ok X.K om0 H0 om2 H2 σ ro := ⟨o2.store, o1.stab.trans o2.stab, o2.slot, o2.len⟩
  exact ⟨p, C, dx, fs', rfl, h1, A.cl, A.no, hl', ro, _, q2, o3.to (o2.store.put hp ⟨dx, _, upd_same, h4, h5.mono (Stable.put hp)⟩) (Stable.put hp)⟩
/-- d[k] = e, by keys -/
def putKD (kvs : List (Key × D)) (k : Key) (d : D) : List (Key × D) := if kvs.any (fun kv => decide (kv.1 = k)) then kvs.map (fun kv => if kv.1 = k then (kv.1, d) else kv) else kvs ++ [(k, d)]
/-- names unpacked from a tuple, from a list -/
theorem s_unT {es' : List Expr} {k : Nat} {tpos : Pos} {t : TGs} {n : Nat} {G : List D → Ro → Ro} (h : we X F.ex ro om e fun d om1 => ∃ ds, d = .tup ds ∧ ds.length = n ∧ F.nx (G ds ro) om1) (hc : X.calm = true) (hg : PGs X es' t)
    (hG : ∀ (om0 : Om) (H0 : Hp) (om1 : Om) (H1 : Hp) (σ : L2.St) (ds : List D) (xs : List V) (Q : L2.St → Hp → Prop), ds.length = n → Ok X.K om0 H0 om1 H1 σ ro → RepL X.K om1 H1 ds xs → (∀ σ', Ok X.K om0 H0 om1 H1 σ' (G ds ro) → Q σ' H1) → t xs σ H1 Q)
    (hn : (assignEach es' X.env).length = n := by rfl) (hst : (assignEach es' X.env).findIdx? (·.1) = none := by rfl) (hs : swapsWithSole [.Tuple es' k tpos] e pos.line X.env = pure false := by rfl) (hw : swappedStores [.Tuple es' k tpos] e X.env = pure none := by rfl)
    (h1 : (assignEach [.Tuple es' k tpos] X.env).map (·.2) = [assign (.Tuple es' k tpos) X.env] := by rfl) : w1 X F ro om (.Assign [.Tuple es' k tpos] e pos) := .mk fun om0 H0 tk σ H o => by
  refine pS_of (ps_asg pE_pe (pg_tup hc hg hn hst) hs hw h1) ?_
  refine pE_mono (h om0 H0 tk σ H o) fun v H1 ⟨d, om1, ⟨ds, ed, hl, q⟩, o1, r⟩ => ?_
  subst ed
  obtain ⟨p, xs, rfl, h2, r2⟩ := tup_rep r
  exact ⟨p, xs, rfl, h2, by rw [← r2.length]; exact hl, hG om0 H0 om1 H1 σ ds xs _ hl o1 r2 fun σ' o' => ⟨_, _, q, o'⟩⟩
def G2 (i j : Nat) : List D → Ro → Ro
  | [d1, d2], ro => (ro.set i (some d1)).set j (some d2)
  | _, ro => ro
theorem g2_ok (i j : Nat) {om0 om1 : Om} {H0 H1 : Hp} {σ : L2.St} {ds : List D} {xs : List V} {Q : L2.St → Hp → Prop} (hl : ds.length = 2) (o : Ok X.K om0 H0 om1 H1 σ ro) (r : RepL X.K om1 H1 ds xs) (q : ∀ σ', Ok X.K om0 H0 om1 H1 σ' (G2 i j ds ro) → Q σ' H1) :
    gCons (gName i) (gCons (gName j) gNil) xs σ H1 Q := by
  match ds, hl with
  | [d1, d2], _ =>
    obtain ⟨v1, t1, rfl, r1, v2, t2, rfl, r2, e⟩ := r
    cases e
    exact ⟨_, _, rfl, _, _, rfl, rfl, q _ ((o.set i r1).set j r2)⟩
def G3 (i j k : Nat) : List D → Ro → Ro
  | [d1, d2, d3], ro => ((ro.set i (some d1)).set j (some d2)).set k (some d3)
  | _, ro => ro
theorem g3_ok (i j k : Nat) {om0 om1 : Om} {H0 H1 : Hp} {σ : L2.St} {ds : List D} {xs : List V} {Q : L2.St → Hp → Prop} (hl : ds.length = 3) (o : Ok X.K om0 H0 om1 H1 σ ro) (r : RepL X.K om1 H1 ds xs) (q : ∀ σ', Ok X.K om0 H0 om1 H1 σ' (G3 i j k ds ro) → Q σ' H1) :
    gCons (gName i) (gCons (gName j) (gCons (gName k) gNil)) xs σ H1 Q := by
  match ds, hl with
  | [d1, d2, d3], _ =>
    obtain ⟨v1, t1, rfl, r1, v2, t2, rfl, r2, v3, t3, rfl, r3, e⟩ := r
    cases e
    exact ⟨_, _, rfl, _, _, rfl, _, _, rfl, rfl, q _ (((o.set i r1).set j r2).set k r3)⟩

/-! ### promises over data -/
abbrev Fs := List D → Om → DK → (Value → List (Str × D) → Om → Prop) → Prop
def spD (K : PySem.W.Frag) (n : Nat) (G : Fs) : Sp := fun vs H Q E => ∃ (om : Om) (ds : List D) (QD : DK) (RD : Value → List (Str × D) → Om → Prop), StoreOk K om H ∧ RepL K om H ds vs ∧ ds.length = n ∧ G ds om QD RD ∧
  (∀ d om' v H', QD d om' → StoreOk K om' H' → Stable om H om' H' → Rep K om' H' d v → Q v H') ∧
  (∀ c fs om' dd H', RD c fs om' → StoreOk K om' H' → Stable om H om' H' → XdOk K om' H' dd fs → E c dd H')
/-- a def of the text that keeps its promise -/
structure DefOk (P : Program) (w : World) (K : PySem.W.Frag) (mg : Str → Option Value) (base : Heap) (xn : Str) (k n : Nat) (G : Fs) : Prop where
  ex : ∃ (f : Addr) (fd : FuncData) (ps : List Str), FnOk P w K mg base (L2.CX P w) k f fd ps (spD K n G) ∧ mg xn = some (.ref f) ∧ PySem.W.keepIn K (.ref f) = true ∧ Binds K fd ps []
theorem sp_run {n : Nat} {G : Fs} {om0 om1 : Om} {H0 H1 : Hp} {σ : L2.St} {ds : List D} {vs : List V} {Q : DK} (o : Ok X.K om0 H0 om1 H1 σ ro) (r : RepL X.K om1 H1 ds vs) (hl : ds.length = n)
    (g : G ds om1 Q fun c fs om' => R c fs ro om') : spD X.K n G vs H1 (fun w H' => ∃ d om', Q d om' ∧ Ok X.K om0 H0 om' H' σ ro ∧ Rep X.K om' H' d w) (WE (Wof X.K om0 H0 R) σ) :=
  ⟨om1, ds, _, _, o.store, r, hl, g, fun d om' v H' q S s rd => ⟨d, om', q, o.to S s, rd⟩, fun c fs om' dd H' q S s x => ⟨fs, ro, om', q, o.to S s, x⟩⟩
theorem e_call {xn : Str} {k n : Nat} {G : Fs} {p : Pos} {Q : DK} (Dk : DefOk X.prog X.w X.K X.mg X.base xn k n G) (hr : Room k X.A) (h : wa X R ro om (e :: es) fun ds om1 => ds.length = n ∧ G ds om1 Q fun c fs om' => R c fs ro om')
    (hg : Gl X xn) (hdb : (xn == ("__debug__" : Str)) = false := by decide) (he : starEach (e :: es) X.env = (false, eval e X.env) :: starEach es X.env := by rfl) (hpl : (backTo pos (starEach es X.env)).any (·.1) = false := by rfl) :
    we X R ro om (.Call (.Name xn p) (e :: es) [] pos) Q := .mk fun om0 H0 t σ H o => by
  obtain ⟨f, fd, ps, Fo, hm, hk, hb⟩ := Dk.ex
  refine pE_of (pe_callS Fo hr hg hm hk hb (fun σ => passAt t σ) pA_pa hdb he hpl) ?_
  exact pA_mono (h om0 H0 t σ H o) fun vs H1 ⟨ds, om1, ⟨hl, q⟩, o1, r⟩ => sp_run o1 r hl q
theorem e_call0 {xn : Str} {k : Nat} {G : Fs} {p : Pos} {Q : DK} (Dk : DefOk X.prog X.w X.K X.mg X.base xn k 0 G) (hr : Room k X.A) (h : G [] om Q fun c fs om' => R c fs ro om') (hg : Gl X xn) (hdb : (xn == ("__debug__" : Str)) = false := by decide) :
    we X R ro om (.Call (.Name xn p) [] [] pos) Q := .mk fun om0 H0 t σ H o pins s I => by
  obtain ⟨f, fd, ps, Fo, hm, hk, hb⟩ := Dk.ex
  refine wpAny_Call_Name_kw (ld_glob I hg hm ?_ hdb)
  exact PySem.W.callWith_K0 I.kIn hk (run_fnS (us := []) Fo hr hb (passAt t σ) I .nil (sp_run o (show RepL X.K om H [] [] from rfl) rfl h))
/-- a def's pure use -/
structure Pu (G : Fs) (om : Om) (ds : List D) (z : D) : Prop where
  go : ∀ (Q : DK) (Rr : Value → List (Str × D) → Om → Prop), Q z om → G ds om Q Rr
instance {G : Fs} {om : Om} {ds : List D} {z : D} : CoeFun (Pu G om ds z) (fun _ => ∀ (Q : DK) (Rr : Value → List (Str × D) → Om → Prop), Q z om → G ds om Q Rr) := ⟨Pu.go⟩
theorem v_call {xn : Str} {k n : Nat} {G : Fs} {p : Pos} {ds : List D} (Dk : DefOk X.prog X.w X.K X.mg X.base xn k n G) (hr : Room k X.A) (h : wav X ro om (e :: es) ds) (hl : ds.length = n) (g : Pu G om ds z)
    (hg : Gl X xn) (hdb : (xn == ("__debug__" : Str)) = false := by decide) (he : starEach (e :: es) X.env = (false, eval e X.env) :: starEach es X.env := by rfl) (hpl : (backTo pos (starEach es X.env)).any (·.1) = false := by rfl) :
    wv X ro om (.Call (.Name xn p) (e :: es) [] pos) z := .mk fun R Q q => e_call Dk hr (h R _ ⟨hl, g _ _ q⟩) hg hdb he hpl
/-- how a def keeps it -/
def startD (N : List Str) (ds : List D) : Ro := ds.map some ++ List.replicate (N.length - ds.length) none
theorem start_slot {K : PySem.W.Frag} {H : Hp} {ds : List D} {vs : List V} {n : Nat} (r : RepL K om H ds vs) {i : Nat} {d : D} (h : (ds.map some ++ List.replicate n none)[i]? = some (some d)) : ∃ v, (vs.map some ++ List.replicate n none)[i]? = some (some v) ∧ Rep K om H d v := by
  by_cases hi : i < ds.length
  · rw [List.getElem?_append_left (by rw [List.length_map]; exact hi), List.getElem?_map] at h
    cases q : ds[i]? with
    | none => rw [q] at h; cases h
    | some d' =>
      rw [q] at h
      cases h
      obtain ⟨v, h1, h2⟩ := r.get q
      refine ⟨v, ?_, h2⟩
      rw [List.getElem?_append_left (by rw [List.length_map, ← r.length]; exact hi), List.getElem?_map, h1]
      rfl
  · rw [List.getElem?_append_right (by rw [List.length_map]; omega)] at h
    have := List.mem_of_getElem? h
    rw [List.mem_replicate] at this
    cases this.2
theorem start_ok {K : PySem.W.Frag} {H : Hp} {ds : List D} {vs : List V} {N : List Str} (S : StoreOk K om H) (r : RepL K om H ds vs) : Ok K om H om H (L2.start N vs) (startD N ds) := by
  refine ⟨S, Stable.refl, fun i d h => ?_, ?_⟩
  · unfold startD at h
    unfold L2.start
    rw [← r.length]
    exact start_slot r h
  · unfold L2.start startD
    simp only [List.length_append, List.length_map, List.length_replicate, r.length]
/-- what is wanted of a body -/
def deOf (Q : DK) (Rr : Value → List (Str × D) → Om → Prop) : De := ⟨fun _ om => Q .non om, Q, fun _ _ => False, fun _ _ => False, fun c fs _ om => Rr c fs om⟩
theorem def_ok {P : Program} {w : World} {K : PySem.W.Frag} {mg : Str → Option Value} {base : Heap} {xn qual : Str} {s0 : Stmt} {f : Addr} {fd : FuncData} {N ps : List Str} {k n : Nat} {G : Fs} (Fu : Fun K xn qual s0 f fd) (S : FnScope N ps (defScope s0)) (hn : ps.length = n)
    (h : ∀ (cdv : Value) (A : Around) (outer : List Env) (s : Shared) (H : Hp) (E : XK), Room k (A.deeper (envOfC qual (defScope s0) s.heap.objs.size f cdv)) → ∀ (om : Om) (ds : List D) (Q : DK) (Rr : Value → List (Str × D) → Om → Prop), ds.length = n → G ds om Q Rr →
      ws (cxOf (L2.CX P w) P w K mg base N qual (defScope s0) f cdv A outer s H E) (deOf Q Rr) (startD N ds) om (defBody s0)) : FnOk P w K mg base (L2.CX P w) (k + 1) f fd ps (spD K n G) := by
  refine Fu.okX S (fun vs H Q E ⟨om, ds, _, _, _, r, hl, _⟩ => by rw [← r.length, hl, hn]) (fun cdv A outer s H vs Q E hr hsp => ?_)
  obtain ⟨om, ds, QD, RD, St, r, hl, g, hq, he⟩ := hsp
  refine ⟨_, pSs_ps, ?_⟩
  have t0 : Takes (cxOf (L2.CX P w) P w K mg base N qual (defScope s0) f cdv A outer s H E) (fun cls d _ H' => E cls d H') := takes_of rfl rfl rfl rfl
  have t : Tk (cxOf (L2.CX P w) P w K mg base N qual (defScope s0) f cdv A outer s H E) om H (deOf QD RD).ex := Takes.imp t0 fun c d σ H' ⟨fs, ro, om', q, o, x⟩ => he c fs om' d H' q o.store o.stab x
  refine pSs_mono (h cdv A outer s H E hr om ds QD RD hl g om H t _ H (start_ok St r)) ⟨fun σ H' ⟨ro, om', q, o⟩ => hq .non om' .non H' q o.store o.stab rfl, fun v H' ⟨d, om', q, S', s', r'⟩ => hq d om' v H' q S' s' r', fun σ H' ⟨ro, om', q, o⟩ => q.elim, fun σ H' ⟨ro, om', q, o⟩ => q.elim⟩

/-! ### loops -/
/-- the iterator walks the items ds, while P holds of the store -/
def JOk (K : PySem.W.Frag) (om1 : Om) (H1 : Hp) (J : It) (ds : List D) (Pm : Om → Prop) : Prop := ∀ (om2 : Om) (H2 : Hp), StoreOk K om2 H2 → Stable om1 H1 om2 H2 → Pm om2 →
  (∀ (i : Nat) (d : D), ds[i]? = some d → J.go i H2 ∧ ∀ x H3, J.yld i H2 x H3 → StoreOk K om2 H3 ∧ Stable om2 H2 om2 H3 ∧ Rep K om2 H3 d x) ∧ J.stop ds.length H2
def Itd (X : Cx) (ro : Ro) (om : Om) (tg iter : Expr) (ds : List D) (Pm : Om → Prop) : Prop := ∀ (R : RX) (om0 : Om) (H0 : Hp), Tk X om0 H0 R → ∀ (σ : L2.St) (H : Hp), Ok X.K om0 H0 om H σ ro →
  pI X tg iter σ H fun J H1 => Ok X.K om0 H0 om H1 σ ro ∧ JOk X.K om H1 J ds Pm
theorem it_L {tg : Expr} {ds : List D} (h : wv X ro om e x) (l : Lr om x ds) : Itd X ro om tg e ds (fun om2 => Lr om2 x ds) := fun R om0 H0 t σ H o => by
  refine pI_of (pi_list pE_pe) (v_run h t o fun v H1 o1 r => ?_)
  obtain ⟨p, xs, rfl, h1, r1⟩ := l.rep o1.store r
  refine ⟨p, rfl, ⟨xs, SqL.of h1⟩, o1, fun om2 H2 S2 s2 l2 => ?_⟩
  obtain ⟨p', xs', e', h2, r2⟩ := l2.rep S2 (r.mono s2)
  cases e'
  refine ⟨fun i d hi => ?_, ⟨xs', SqL.of h2, Nat.le_of_eq r2.length.symm⟩⟩
  obtain ⟨u, h3, r3⟩ := r2.get hi
  refine ⟨⟨xs', u, SqL.of h2, h3⟩, fun x' H3 ⟨e3, y3⟩ => ?_⟩
  subst e3
  have := y3 xs' (SqL.of h2)
  rw [h3] at this
  cases this
  exact ⟨S2, Stable.refl, r3⟩
theorem it_T {tg : Expr} {ds : List D} (h : wv X ro om e (.tup ds)) : Itd X ro om tg e ds (fun _ => True) := fun R om0 H0 t σ H o => by
  refine pI_of (pi_tup pE_pe) (v_run h t o fun v H1 o1 r => ?_)
  obtain ⟨p, xs, rfl, h1, r1⟩ := tup_rep r
  refine ⟨p, rfl, ⟨xs, h1⟩, o1, fun om2 H2 S2 s2 _ => ?_⟩
  obtain ⟨p', xs', e', h2, r2⟩ := tup_rep (r.mono s2)
  cases e'
  refine ⟨fun i d hi => ?_, ⟨xs', h2, Nat.le_of_eq r2.length.symm⟩⟩
  obtain ⟨u, h3, r3⟩ := r2.get hi
  refine ⟨⟨xs', u, h2, h3⟩, fun x' H3 ⟨e3, y3⟩ => ?_⟩
  subst e3
  have := y3 xs' h2
  rw [h3] at this
  cases this
  exact ⟨S2, Stable.refl, r3⟩
theorem it_r1 {tg : Expr} {p p1 : Pos} {n : Int} (h : wv X ro om e (.int n)) (hm : X.mg "range" = none) (hn : n < 2 ^ 62) (hn2 : -(2 ^ 62) ≤ n) (hg : Gl X "range") (hs : starEach [e] X.env = [(false, eval e X.env)] := by rfl) :
    Itd X ro om tg (.Call (.Name "range" p) [e] [] p1) ((List.range n.toNat).map fun (i : Nat) => .int (i : Int)) (fun _ => True) := fun R om0 H0 t σ H o => by
  refine pI_of (pi_range1 hg hm pA_pa hs) ?_
  refine pA_of (pa_cons pE_pe pa_nil hs) (v_run h t o fun v H1 o1 r => ?_)
  cases r
  refine ⟨n, rfl, hn2, hn, o1, fun om2 H2 S2 s2 _ => ⟨fun i d hi => ?_, ?_⟩⟩
  · rw [List.getElem?_map] at hi
    cases q : (List.range n.toNat)[i]? with
    | none => rw [q] at hi; cases hi
    | some j =>
      rw [q] at hi
      cases hi
      obtain ⟨hj, ej⟩ := List.getElem?_eq_some_iff.mp q
      rw [List.getElem_range] at ej
      subst ej
      rw [List.length_range] at hj
      refine ⟨hj, fun x' H3 ⟨e3, y3⟩ => ?_⟩
      subst e3 y3
      exact ⟨S2, Stable.refl, by rw [Int.zero_add]; rfl⟩
  · rw [List.length_map, List.length_range]
    exact Nat.le_refl _
theorem it_r3 {tg b c : Expr} {p p1 : Pos} {i j k : Int} {n : Nat} (h : wav X ro om [e, b, c] [.int i, .int j, .int k]) (hm : X.mg "range" = none) (hr : RgC i j k n) (hg : Gl X "range") (hs : starEach [e, b, c] X.env = (false, eval e X.env) :: starEach [b, c] X.env := by rfl) (hpl : (backTo p1 (starEach [b, c] X.env)).any (·.1) = false := by rfl) :
    Itd X ro om tg (.Call (.Name "range" p) [e, b, c] [] p1) ((List.range n).map fun (t : Nat) => .int (i + t * k)) (fun _ => True) := fun R om0 H0 t σ H o => by
  refine pI_of (pi_range3 hg hm pA_pa hs hpl) ?_
  refine pA_mono (h R (fun ds om' => ds = [.int i, .int j, .int k] ∧ om' = om) ⟨rfl, rfl⟩ om0 H0 t σ H o) fun vs H1 ⟨ds, om1, ⟨e1, e2⟩, o1, r⟩ => ?_
  subst e1 e2
  have ev : vs = [.int i, .int j, .int k] := RepL.ints (ns := [i, j, k]) r
  refine ⟨i, j, k, n, ev, hr, o1, fun om2 H2 S2 s2 _ => ⟨fun i' d hi => ?_, ?_⟩⟩
  · rw [List.getElem?_map] at hi
    cases q : (List.range n)[i']? with
    | none => rw [q] at hi; cases hi
    | some j' =>
      rw [q] at hi
      cases hi
      obtain ⟨hj, ej⟩ := List.getElem?_eq_some_iff.mp q
      rw [List.getElem_range] at ej
      subst ej
      rw [List.length_range] at hj
      refine ⟨hj, fun x' H3 ⟨e3, y3⟩ => ?_⟩
      subst e3 y3
      exact ⟨S2, Stable.refl, rfl⟩
  · rw [List.length_map, List.length_range]
    exact Nat.le_refl _
theorem it_S {tg : Expr} {s : Str} (h : wv X ro om e (.str s)) : Itd X ro om tg e (s.cps.toList.map fun c => .str ⟨#[c]⟩) (fun _ => True) := fun R om0 H0 t σ H o => by
  refine pI_of (pi_str pE_pe) (v_run h t o fun v H1 o1 r => ?_)
  cases r
  refine ⟨s, rfl, o1, fun om2 H2 S2 s2 _ => ⟨fun i d hi => ?_, ?_⟩⟩
  · rw [List.getElem?_map] at hi
    cases q : s.cps.toList[i]? with
    | none => rw [q] at hi; cases hi
    | some c =>
      rw [q] at hi
      cases hi
      have hl := (List.getElem?_eq_some_iff.mp q).1
      rw [Array.length_toList] at hl
      refine ⟨hl, fun x' H3 ⟨e3, c', h3, y3⟩ => ?_⟩
      subst e3 y3
      rw [← Array.getElem?_toList, q] at h3
      cases h3
      exact ⟨S2, Stable.refl, rfl⟩
  · rw [List.length_map]
    exact Nat.le_of_eq (by rw [Array.length_toList])
/-- a target: what it does to the slots -/
def Tg (X : Cx) (tg : Expr) (d : D) (U : Ro → Ro) (g : TG) : Prop := ∀ (om0 : Om) (H0 : Hp) (om1 : Om) (H1 : Hp) (σ : L2.St) (ro : Ro) (v : V) (Q : L2.St → Hp → Prop), Ok X.K om0 H0 om1 H1 σ ro → Rep X.K om1 H1 d v → (∀ σ', Ok X.K om0 H0 om1 H1 σ' (U ro) → Q σ' H1) → g v σ H1 Q
theorem tg_name (i : Nat) {tg : Expr} : Tg X tg d (fun ro => ro.set i (some d)) (gName i) := fun om0 H0 om1 H1 σ ro v Q o r q => q _ (o.set i r)
theorem tg_2 (i j : Nat) {tg : Expr} {d1 d2 : D} : Tg X tg (.tup [d1, d2]) (fun ro => (ro.set i (some d1)).set j (some d2)) (gTup X.K 2 (gCons (gName i) (gCons (gName j) gNil))) := fun om0 H0 om1 H1 σ ro v Q o r q => by
  obtain ⟨p, xs, rfl, h1, r1⟩ := tup_rep r
  exact ⟨p, xs, rfl, h1, by rw [← r1.length]; rfl, g2_ok i j rfl o r1 q⟩
theorem tg_3 (i j k : Nat) {tg : Expr} {d1 d2 d3 : D} : Tg X tg (.tup [d1, d2, d3]) (fun ro => ((ro.set i (some d1)).set j (some d2)).set k (some d3)) (gTup X.K 3 (gCons (gName i) (gCons (gName j) (gCons (gName k) gNil)))) := fun om0 H0 om1 H1 σ ro v Q o r q => by
  obtain ⟨p, xs, rfl, h1, r1⟩ := tup_rep r
  exact ⟨p, xs, rfl, h1, by rw [← r1.length]; rfl, g3_ok i j k rfl o r1 q⟩
theorem w_for {tg iter : Expr} {body : List Stmt} {ds : List D} {Pm : Om → Prop} {g : TG} {U : D → Ro → Ro} (hi : Itd X ro om tg iter ds Pm) (I : Nat → Ro → Om → Prop) (h0 : I 0 ro om) (hP : ∀ i ro' om', I i ro' om' → Pm om')
    (hT : ∀ d, d ∈ ds → Tg X tg d (U d) g) (hs : ∀ (i : Nat) (d : D) (ro' : Ro) (om' : Om), ds[i]? = some d → I i ro' om' → ws X { F with nx := I (i + 1), ct := I (i + 1), bk := F.nx } (U d ro') om' body)
    (hd : ∀ ro' om', I ds.length ro' om' → F.nx ro' om') (hg : PG X tg g) (hp : PassesOwn (model X.prog X.w) X.A X.env X.xe) (hc : X.calm = true) (hfo : ∀ x, foldedSetIterable iter X.env x = pure x := by intro _; rfl) : w1 X F ro om (.For tg iter body [] pos) := .mk fun om0 H0 t σ H o => by
  refine pS_of (ps_for hp hc pI_pi hg pSs_ps hfo) ?_
  refine fun pins s I' => wpAny_mono (hi F.ex om0 H0 t σ H o pins s I') (fun v s1 h1 => thn h1 fun itv s2 ⟨it, fp, tn, J, H2, e2, I2, T2, st2, f2, o2, j2⟩ => ?_) (fun _ _ x => x)
  refine ⟨it, fp, tn, J, H2, e2, I2, T2, st2, f2, fun i m σ' H' => m = ds.length - i ∧ i ≤ ds.length ∧ ∃ ro' om', I i ro' om' ∧ Ok X.K om0 H0 om' H' σ' ro' ∧ Stable om H2 om' H', ⟨ds.length, by simp, Nat.zero_le _, ro, om, h0, o2, Stable.refl⟩, ?_⟩
  rintro i m σ3 H3 ⟨rfl, hle, ro3, om3, i3, o3, s3⟩
  obtain ⟨jg, js⟩ := j2 om3 H3 o3.store s3 (hP _ _ _ i3)
  by_cases hlt : i < ds.length
  · refine .inr ⟨(jg i ds[i] (List.getElem?_eq_getElem hlt)).1, fun σ' H' => ∃ ro' om', I (i + 1) ro' om' ∧ Ok X.K om0 H0 om' H' σ' ro' ∧ Stable om H2 om' H', fun σ' H' ⟨ro', om', q1, q2, q3⟩ => ⟨ds.length - (i + 1), by omega, rfl, hlt, ro', om', q1, q2, q3⟩, fun x' H4 y4 => ?_⟩
    obtain ⟨S4, s4, r4⟩ := (jg i ds[i] (List.getElem?_eq_getElem hlt)).2 x' H4 y4
    have o4 : Ok X.K om0 H0 om3 H4 σ3 ro3 := o3.to S4 s4
    refine hT ds[i] (List.getElem_mem hlt) om0 H0 om3 H4 σ3 ro3 x' _ o4 r4 fun σ5 o5 => ?_
    have hb := hs i ds[i] ro3 om3 (List.getElem?_eq_getElem hlt) i3 om3 H4 (t.at o5.stab) σ5 H4 ⟨o5.store, Stable.refl, o5.slot, o5.len⟩
    refine pSs_mono hb ⟨fun σ6 H6 ⟨ro6, om6, q6, o6⟩ => ⟨ro6, om6, q6, ⟨o6.store, o5.stab.trans o6.stab, o6.slot, o6.len⟩, (s3.trans s4).trans o6.stab⟩, fun v6 H6 ⟨d6, om6, q6, S6, s6, r6⟩ => ⟨d6, om6, q6, S6, o5.stab.trans s6, r6⟩,
      fun σ6 H6 ⟨ro6, om6, q6, o6⟩ => ⟨ro6, om6, q6, ⟨o6.store, o5.stab.trans o6.stab, o6.slot, o6.len⟩⟩, fun σ6 H6 ⟨ro6, om6, q6, o6⟩ => ⟨ro6, om6, q6, ⟨o6.store, o5.stab.trans o6.stab, o6.slot, o6.len⟩, (s3.trans s4).trans o6.stab⟩⟩
  · have ei : i = ds.length := by omega
    subst ei
    exact .inl ⟨js, ro3, om3, hd _ _ i3, o3⟩
end
end Mo

set_option Elab.async false
set_option linter.all false
set_option maxRecDepth 100000
set_option maxHeartbeats 4000000
set_option autoImplicit false
/-! Names by their places. -/
namespace Mo
open PySem PySem.Spec PyProof.Rows L2
/-- the name x stands in the i-th slot -/
structure NameAt (X : Cx) (i : Nat) (x : Str) : Prop where
  at_ : X.N[i]? = some x
  vis : Vis X.env.scope x
  db : (x == ("__debug__" : Str)) = false
  cd : (x == ("__classdict__" : Str)) = false
theorem NameAt.v {X : Cx} {i : Nat} {x : Str} {ro : Ro} {om : Om} {pos : Pos} {d : D} (n : NameAt X i x) (h : ro[i]? = some (some d)) : wv X ro om (.Name x pos) d := v_name i n.at_ h n.vis n.db n.cd
theorem NameAt.w {X : Cx} {i : Nat} {x : Str} {ro : Ro} {om : Om} {pos : Pos} {d : D} {R : RX} {Q : DK} (n : NameAt X i x) (h : ro[i]? = some (some d)) (q : Q d om) : we X R ro om (.Name x pos) Q := n.v h R Q q
/-- .. and may be stored -/
structure Lo (X : Cx) (i : Nat) (x : Str) : Prop where
  at_ : X.N[i]? = some x
  loc : Loc X.env.scope x
  fn : X.fn x = true
def NamesFrom (X : Cx) : Nat → List Str → Prop
  | _, [] => True
  | i, x :: r => (NameAt X i x ∧ Lo X i x) ∧ NamesFrom X (i + 1) r
def visB (sc : Scope) (x : Str) : Bool := (sc.names.lookup x == some .local || sc.names.lookup x == some .cell || sc.names.lookup x == some .free) && !(x == ("__debug__" : Str)) && !(x == ("__classdict__" : Str))
def locB (sc : Scope) (x : Str) : Bool := (sc.names.lookup x == some .local || sc.names.lookup x == some .cell) && !(x == ("__debug__" : Str)) && !(x == ("__classdict__" : Str))
theorem nameAt_of {X : Cx} {i : Nat} {x : Str} (h1 : X.N[i]? = some x) (h : visB X.env.scope x = true) : NameAt X i x := by
  unfold visB at h
  simp only [Bool.and_eq_true, Bool.or_eq_true, Bool.not_eq_true', beq_iff_eq] at h
  obtain ⟨⟨hv, h2⟩, h3⟩ := h
  refine ⟨h1, ?_, h2, h3⟩
  rcases hv with (hv | hv) | hv
  · exact .inl hv
  · exact .inr (.inl hv)
  · exact .inr (.inr hv)
theorem loc_of {X : Cx} {i : Nat} {x : Str} (h1 : X.N[i]? = some x) (h : locB X.env.scope x = true) (hf : X.fn = fun _ => true) : NameAt X i x ∧ Lo X i x := by
  unfold locB at h
  simp only [Bool.and_eq_true, Bool.or_eq_true, Bool.not_eq_true', beq_iff_eq] at h
  obtain ⟨⟨hv, h2⟩, h3⟩ := h
  exact ⟨⟨h1, hv.elim .inl fun z => .inr (.inl z), h2, h3⟩, h1, hv, by rw [hf]⟩
theorem names_from {X : Cx} (hf : X.fn = fun _ => true) : ∀ (r : List Str) (i : Nat), (∀ (j : Nat) (x : Str), r[j]? = some x → X.N[i + j]? = some x) → r.all (locB X.env.scope) = true → NamesFrom X i r
  | [], _, _, _ => trivial
  | x :: r, i, h, v => by
    simp only [List.all_cons, Bool.and_eq_true] at v
    exact ⟨loc_of (h 0 x rfl) v.1 hf, names_from hf r (i + 1) (fun j y hy => by rw [Nat.add_right_comm i 1 j]; exact h (j + 1) y (by simpa using hy)) v.2⟩
theorem NameAt.blk {X : Cx} {i : Nat} {x : Str} {s : Shared} {H : Hp} {sc : Scope} {ce : Env} {fp : List Addr} (n : X.N[i]? = some x) (v : visB ce.scope x = true) : NameAt (X.blk s H sc ce fp) i x := nameAt_of n v
theorem NameAt.tr {X : Cx} {i : Nat} {x : Str} {pn : List (Addr × Obj)} {xe : Value → Shared → Prop} (n : NameAt X i x) : NameAt (X.tr pn xe) i x := ⟨n.at_, n.vis, n.db, n.cd⟩
theorem NameAt.suite {X : Cx} {i : Nat} {x : Str} {a : Addr} {pn : List (Addr × Obj)} (n : NameAt X i x) : NameAt (X.suite a pn) i x := ⟨n.at_, n.vis, n.db, n.cd⟩
theorem Lo.tr {X : Cx} {i : Nat} {x : Str} {pn : List (Addr × Obj)} {xe : Value → Shared → Prop} (n : Lo X i x) : Lo (X.tr pn xe) i x := ⟨n.at_, n.loc, n.fn⟩
theorem Lo.suite {X : Cx} {i : Nat} {x : Str} {a : Addr} {pn : List (Addr × Obj)} (n : Lo X i x) : Lo (X.suite a pn) i x := ⟨n.at_, n.loc, n.fn⟩
/-- name = e -/
theorem Lo.asg {X : Cx} {i : Nat} {xn : Str} {pos' pos : Pos} {ro : Ro} {om : Om} {F : De} {e : Expr} (l : Lo X i xn) (nd : X.N.Nodup) (h : we X F.ex ro om e fun d om' => F.nx (ro.set i (some d)) om') (hs : swapsWith e (some (.Name xn pos')) pos.line X.env = pure false := by rfl) :
    w1 X F ro om (.Assign [.Name xn pos'] e pos) := s_asg i l.at_ l.loc h nd hs (.inl l.fn)
/-- .. its value a tree -/
theorem Lo.set {X : Cx} {i : Nat} {xn : Str} {pos' pos : Pos} {ro : Ro} {om : Om} {F : De} {e : Expr} {d : D} {rest : List Stmt} (l : Lo X i xn) (nd : X.N.Nodup) (h : wv X ro om e d) (k : ws X F (ro.set i (some d)) om rest) (hs : swapsWith e (some (.Name xn pos')) pos.line X.env = pure false := by rfl) :
    ws X F ro om (.Assign [.Name xn pos'] e pos :: rest) := ws_cons (l.asg nd (h _ _ k) hs)
/-- .. a new list -/
theorem Lo.new {X : Cx} {i : Nat} {xn : Str} {pos' pos : Pos} {ro : Ro} {om : Om} {F : De} {e : Expr} {ds : List D} {rest : List Stmt} (l : Lo X i xn) (nd : X.N.Nodup) (h : wn X ro om e ds) (k : ∀ p, om p = none → ws X F (ro.set i (some (.obj p))) (ups om p (.lst ds)) rest) (hs : swapsWith e (some (.Name xn pos')) pos.line X.env = pure false := by rfl) :
    ws X F ro om (.Assign [.Name xn pos'] e pos :: rest) := ws_cons (l.asg nd (h _ _ k) hs)
/-- if c: name = e, the name's value told -/
theorem Lo.ifI {X : Cx} {i : Nat} {xn : Str} {pos' pos p2 : Pos} {ro : Ro} {om : Om} {F : De} {c e : Expr} {k : Bool} {a b : Int} {rest : List Stmt} (l : Lo X i xn) (nd : X.N.Nodup) (h : wtv X ro om c k) (h1 : k = true → wv X ro om e (.int a)) (h0 : ro[i]? = some (some (.int b)))
    (nx : ws X F (ro.set i (some (.int (if k = true then a else b)))) om rest) (hs : swapsWith e (some (.Name xn pos')) p2.line X.env = pure false := by rfl) : ws X F ro om (.If c [.Assign [.Name xn pos'] e p2] [] pos :: rest) := by
  refine ws_cons (s_if h (fun hk => ws_one (l.asg nd (h1 hk _ _ ?_) hs)) (fun hk => ws_nil ?_))
  · subst hk
    exact nx
  · subst hk
    have e : ro.set i (some (.int b)) = ro := by
      obtain ⟨hl, q⟩ := List.getElem?_eq_some_iff.mp h0
      rw [← q, List.set_getElem_self]
    have nx' : ws X F (ro.set i (some (.int b))) om rest := nx
    rw [e] at nx'
    exact nx'
/-- a global name of the text, or a built-in's -/
def gloB (sc : Scope) (x : Str) : Bool := sc.names.lookup x == some .globalImplicit
theorem gl_of {X : Cx} {sc : Scope} {x : Str} (e : X.env.scope = sc) (h : gloB sc x = true) : Gl X x := by
  unfold gloB at h
  unfold Gl
  show X.env.scope.names.lookup x = _
  rw [e]
  exact beq_iff_eq.mp h
/-- what a body's walk leans on -/
structure Bd (X : Cx) (N : List Str) (sc : Scope) (k : Nat) : Prop where
  nN : X.N = N
  nd : X.N.Nodup
  sc : X.env.scope = sc
  calm : X.calm = true
  fn : X.fn = fun _ => true
  room : Room k X.A
  un : X.A.units + 150 < cLine
  pass : PassesOwn (model X.prog X.w) X.A X.env X.xe
  stk : X.stack = X.env :: X.outer
  frm : X.env.frame = some X.env.locals
  exs : X.ex = []
/-- a def of the text as it stands behind the top -/
abbrev Df (K : PySem.W.Frag) (d : He.DefD) (f : Addr) (fd : FuncData) : Prop := FunD K d.name d.qual d.params d.body d.scope (d.dvs K) (d.kws K) f fd
theorem def_okD {P : Program} {w : World} {K : PySem.W.Frag} {mg : Str → Option Value} {base : Heap} {dd : He.DefD} {f : Addr} {fd : FuncData} {N ps : List Str} {k n : Nat} {G : Fs} (Fu : Df K dd f fd) (S : FnScope N ps dd.scope) (hn : ps.length = n)
    (h : ∀ (cdv : Value) (A : Around) (outer : List Env) (s : Shared) (H : Hp) (E : XK), Room k (A.deeper (envOfC dd.qual dd.scope s.heap.objs.size f cdv)) → ∀ (om : Om) (ds : List D) (Q : DK) (Rr : Value → List (Str × D) → Om → Prop), ds.length = n → G ds om Q Rr →
      ws (cxOf (L2.CX P w) P w K mg base N dd.qual dd.scope f cdv A outer s H E) (deOf Q Rr) (startD N ds) om dd.body) : FnOk P w K mg base (L2.CX P w) (k + 1) f fd ps (spD K n G) := by
  refine FunD.ok Fu S (fun vs H Q E ⟨om, ds, _, _, _, r, hl, _⟩ => by rw [← r.length, hl, hn]) (fun cdv A outer s H vs Q E hr hsp => ?_)
  obtain ⟨om, ds, QD, RD, St, r, hl, g, hq, he⟩ := hsp
  refine ⟨_, pSs_ps, ?_⟩
  have t0 : Takes (cxOf (L2.CX P w) P w K mg base N dd.qual dd.scope f cdv A outer s H E) (fun cls d _ H' => E cls d H') := takes_of rfl rfl rfl rfl
  have t : Tk (cxOf (L2.CX P w) P w K mg base N dd.qual dd.scope f cdv A outer s H E) om H (deOf QD RD).ex := Takes.imp t0 fun c d σ H' ⟨fs, ro, om', q, o, x⟩ => he c fs om' d H' q o.store o.stab x
  refine pSs_mono (h cdv A outer s H E hr om ds QD RD hl g om H t _ H (start_ok St r)) ⟨fun σ H' ⟨ro, om', q, o⟩ => hq .non om' .non H' q o.store o.stab rfl, fun v H' ⟨d, om', q, S', s', r'⟩ => hq d om' v H' q S' s' r', fun σ H' ⟨ro, om', q, o⟩ => q.elim, fun σ H' ⟨ro, om', q, o⟩ => q.elim⟩
/-- THE RULE for a def of the text: Nl the names of its own (a comprehension's names stand behind them in N) -/
theorem def_ok' {P : Program} {w : World} {K : PySem.W.Frag} {mg : Str → Option Value} {base : Heap} {dd : He.DefD} {f : Addr} {fd : FuncData} {N ps : List Str} {k n : Nat} {G : Fs} (Fu : Df K dd f fd) (S : FnScope N ps dd.scope) (hn : ps.length = n)
    (Nl : List Str) (hN : N.take Nl.length = Nl) (hv : Nl.all (locB dd.scope) = true)
    (h : ∀ (X : Cx), X.prog = P → X.w = w → X.K = K → X.mg = mg → X.base = base → Bd X N dd.scope k → NamesFrom X 0 Nl →
      ∀ (om : Om) (ds : List D) (Q : DK) (Rr : Value → List (Str × D) → Om → Prop), ds.length = n → G ds om Q Rr → ws X (deOf Q Rr) (startD N ds) om dd.body) : FnOk P w K mg base (L2.CX P w) (k + 1) f fd ps (spD K n G) :=
  def_okD Fu S hn fun cdv A outer s H E hr om ds Q Rr hl g => by
    refine h (cxOf (L2.CX P w) P w K mg base N dd.qual dd.scope f cdv A outer s H E) rfl rfl rfl rfl rfl ⟨rfl, S.nd, rfl, rfl, rfl, hr, ?_, passes_of rfl, rfl, rfl, rfl⟩ (names_from rfl Nl 0 (fun j x hx => ?_) hv) om ds Q Rr hl g
    · have := hr.un
      show (A.deeper _).units + 150 < cLine
      omega
    · rw [Nat.zero_add]
      show N[j]? = some x
      rw [← hN, List.getElem?_take] at hx
      split at hx
      · exact hx
      · cases hx
/-- a text's def, found by its name -/
theorem dk_of {P : Program} {w : World} {K : PySem.W.Frag} {mg : Str → Option Value} {base : Heap} {xn : Str} {k n : Nat} {G : Fs} {f : Addr} {fd : FuncData} {ps : List Str} (h : FnOk P w K mg base (L2.CX P w) k f fd ps (spD K n G)) (hm : mg xn = some (.ref f)) (hk : PySem.W.keepIn K (.ref f) = true) (hb : Binds K fd ps []) :
    DefOk P w K mg base xn k n G := ⟨f, fd, ps, h, hm, hk, hb⟩
/-- the built-ins' names are the built-ins' -/
structure Blt (mg : Str → Option Value) : Prop where
  len : mg "len" = none
  list : mg "list" = none
  int : mg "int" = none
  str : mg "str" = none
  bool : mg "bool" = none
  tuple : mg "tuple" = none
  max : mg "max" = none
  min : mg "min" = none
  any : mg "any" = none
  all : mg "all" = none
  sum : mg "sum" = none
  sorted : mg "sorted" = none
  range : mg "range" = none
  enumerate : mg "enumerate" = none
  zip : mg "zip" = none
  reversed : mg "reversed" = none
  isinstance : mg "isinstance" = none
  valueError : mg "ValueError" = none
section
variable {X : Cx} (B : Blt X.mg)
theorem Blt.bLen (B : Blt X.mg) : Bi X "len" (.builtin "len") := .fn _ B.len PySem.boot_len (by decide) (by decide)
theorem Blt.bList (B : Blt X.mg) : Bi X "list" (.type "list") := .ty _ B.list PyProof.Rows.boot_list (by decide) (by decide)
theorem Blt.bInt (B : Blt X.mg) : Bi X "int" (.type "int") := .ty _ B.int PyProof.Rows.boot_int (by decide) (by decide)
theorem Blt.bStr (B : Blt X.mg) : Bi X "str" (.type "str") := .ty _ B.str PyProof.Rows.boot_str (by decide) (by decide)
theorem Blt.bMax (B : Blt X.mg) : Bi X "max" (.builtin "max") := .fn _ B.max PyProof.Rows.boot_max (by decide) (by decide)
theorem Blt.bMin (B : Blt X.mg) : Bi X "min" (.builtin "min") := .fn _ B.min PyProof.Rows.boot_min (by decide) (by decide)
theorem Blt.bAny (B : Blt X.mg) : Bi X "any" (.builtin "any") := .fn _ B.any PyProof.Rows.boot_any (by decide) (by decide)
theorem Blt.bAll (B : Blt X.mg) : Bi X "all" (.builtin "all") := .fn _ B.all PyProof.Rows.boot_all (by decide) (by decide)
theorem Blt.bSum (B : Blt X.mg) : Bi X "sum" (.builtin "sum") := .fn _ B.sum PyProof.Rows.boot_sum (by decide) (by decide)
theorem Blt.bSorted (B : Blt X.mg) : Bi X "sorted" (.builtin "sorted") := .fn _ B.sorted PyProof.Rows.boot_sorted (by decide) (by decide)
theorem Blt.bIsi (B : Blt X.mg) : Bi X "isinstance" (.builtin "isinstance") := .fn _ B.isinstance PyProof.Rows.boot_isinstance (by decide) (by decide)
theorem Blt.kBool (B : Blt X.mg) : Kl X "bool" (.type "bool") := .ty _ B.bool PyProof.Rows.boot_bool (by decide) (by decide)
theorem Blt.kInt (B : Blt X.mg) : Kl X "int" (.type "int") := .ty _ B.int PyProof.Rows.boot_int (by decide) (by decide)
theorem Blt.kStr (B : Blt X.mg) : Kl X "str" (.type "str") := .ty _ B.str PyProof.Rows.boot_str (by decide) (by decide)
theorem Blt.kList (B : Blt X.mg) : Kl X "list" (.type "list") := .ty _ B.list PyProof.Rows.boot_list (by decide) (by decide)
theorem Blt.kTuple (B : Blt X.mg) : Kl X "tuple" (.type "tuple") := .ty _ B.tuple PyProof.Rows.boot_tuple (by decide) (by decide)
end
/-- return e -/
theorem ret_v {X : Cx} {ro : Ro} {om : Om} {F : De} {e : Expr} {d : D} {pos : Pos} {rest : List Stmt} (h : wv X ro om e d) (q : F.rt d om) : ws X F ro om (.Return (some e) pos :: rest) := ws_cons (s_ret (h _ _ q))
/-- range(0, j, 2), few turns -/
theorem rg2 {j : Int} (hj : 0 ≤ j) (hj2 : j ≤ 100000) : RgC 0 j 2 ((j + 1) / 2).toNat := by
  refine ⟨by decide, by decide, ?_, ?_⟩
  · unfold Builtin.Range.small Builtin.Range.rangeSize
    simp only [Builtin.Range.rangeFitsLong, Bool.and_eq_true, Bool.or_eq_true, decide_eq_true_eq, beq_iff_eq, show (2 : Int) > 0 by decide, if_true]
    split <;> omega
  · unfold Builtin.Range.rangeSize
    rw [if_pos (by decide)]
    split <;> omega
/-- range(0, j, 3), few turns -/
theorem rg3 {j : Int} (hj : 0 ≤ j) (hj2 : j ≤ 100000) : RgC 0 j 3 ((j + 2) / 3).toNat := by
  refine ⟨by decide, by decide, ?_, ?_⟩
  · unfold Builtin.Range.small Builtin.Range.rangeSize
    simp only [Builtin.Range.rangeFitsLong, Bool.and_eq_true, Bool.or_eq_true, decide_eq_true_eq, beq_iff_eq, show (3 : Int) > 0 by decide, if_true]
    split <;> omega
  · unfold Builtin.Range.rangeSize
    rw [if_pos (by decide)]
    split <;> omega
/-- the law's own call -/
theorem law_sp {K : PySem.W.Frag} {G : Fs} {H : Hp} {a : Addr} {ns : List Int} {Q : VK} {E : XK} (hS : SqL K H a (ns.map V.int)) (g : G [.scr ns] (fun _ => none) (fun d _ => d = .bl true) (fun _ _ _ => False)) (hQ : ∀ H', Q (.bl true) H') : spD K 1 G [.ref a] H Q E := by
  refine ⟨fun _ => none, [.scr ns], _, _, fun b o (e : none = some o) => (by cases e), ⟨_, _, rfl, ⟨a, rfl, ?_⟩, rfl⟩, rfl, g, fun d om' v H' e S s r => ?_, fun c fs om' dd H' (z : False) => False.elim z⟩
  · rcases hS with h | h
    · exact .inl ⟨rfl, h⟩
    · exact .inr h
  · subst e
    cases r
    exact hQ H'
theorem cx_no {P : Program} {w : World} {H : Hp} {s : Shared} {e : Value} {s' : Shared} (h : L2.CX P w [] H s (fun _ _ _ => False) e s') : False := by
  obtain ⟨_, _, _, _, _, _, _, _, _, _, _, _, z⟩ := h
  exact z.elim
end Mo

set_option Elab.async false
set_option linter.all false
set_option maxRecDepth 100000
set_option maxHeartbeats 4000000
set_option autoImplicit false
/-! The head: facts of the written part as tests, each a function of it. -/
namespace Mo
open PySem PySem.Spec PyProof.Rows L2
theorem SaysM.all {fs : List Fk} {fn : List He.DefD} {K : PySem.W.Frag} (c : SaysM fs fn K) : fs.all (fun f => f K) = true :=
  (Bool.and_eq_true_iff.mp (congrArg Prod.fst c)).1
theorem SaysM.fact {fs : List Fk} {fn : List He.DefD} {K : PySem.W.Frag} (c : SaysM fs fn K) (i : Nat) {f : Fk} (h : fs[i]? = some f := by rfl) : f K = true :=
  List.all_eq_true.mp c.all f (List.mem_of_getElem? h)
theorem SaysM.def_ {fs : List Fk} {fn : List He.DefD} {K : PySem.W.Frag} (c : SaysM fs fn K) (i : Nat) {d : He.DefD} (h : fn[i]? = some d := by rfl) : ∃ fd, Df K d (He.fAd K d.at_) fd := by
  have c2 := (Bool.and_eq_true_iff.mp (show (_ && _) = true from congrArg Prod.fst c)).2
  have e : fn.map (fun d => He.fnW K d.at_) = fn.map He.DefD.val := congrArg Prod.snd c
  have e2 := congrArg (fun l : List He.FnW => l[i]?) e
  simp only [List.getElem?_map, h, Option.map_some, Option.some.injEq] at e2
  exact He.DefD.funD e2 (List.all_eq_true.mp c2 d (List.mem_of_getElem? h))
/-! ### the facts -/
section
variable {K : PySem.W.Frag} {h : Heap} {mg : Str → Option Value}
theorem fGlo_ok (X : K.In h) (G : h.Ns mainGlobals mg) {x : Str} (c : fGlo x K = true) : mg x = some (.ref (He.ga K x)) := PySem.W.mg_of X G (He.eqO_ok c)
theorem fFree_ok (X : K.In h) (G : h.Ns mainGlobals mg) {x : Str} (c : fFree x K = true) : mg x = none := PySem.W.mg_none_of X G (He.eqO_ok c)
theorem fBlt_ok (X : K.In h) (G : h.Ns mainGlobals mg) (c : fFree18 K = true) : Blt mg := by
  have f : ∀ x : Str, x ∈ (["len", "list", "int", "str", "bool", "tuple", "max", "min", "any", "all", "sum", "sorted", "range", "enumerate", "zip", "reversed", "isinstance", "ValueError"] : List Str) → mg x = none := fun x m => fFree_ok X G (List.all_eq_true.mp c x m)
  constructor <;> exact f _ (by decide)
end
/-- what leaves a def, said more widely -/
theorem cx_imp {P : Program} {w : World} {K : PySem.W.Frag} {mg : Str → Option Value} {base : Heap} {CX CX' : CXT} {k : Nat} {f : Addr} {fd : FuncData} {ps : List Str} {sp : Sp} (h : ∀ outer H s E e s', CX outer H s E e s' → CX' outer H s E e s') (F : FnOk P w K mg base CX k f fd ps sp) : FnOk P w K mg base CX' k f fd ps sp :=
  ⟨F.len, fun A outer s H args us vs Q E hr he hb hv hs => codeAny_mono (F.run A outer s H args us vs Q E hr he hb hv hs) fun r s' q => by
    cases r with
    | ok fl => cases fl <;> exact q
    | error e => exact h _ _ _ _ _ _ q⟩
/-- the end: from the head's facts to the row -/
theorem walk_law {l : PySem.W.OpenLaw} {n k : Nat} {q : Program} {loose : List Str} {XP : (Str → Option Value) → Heap → Prop} {fs : List Fk} {fn : List He.DefD} {d : DefRec} {x : Str} {G : Fs} (hn : l.most = some n) (hn2 : n ≤ sizeLine) (hdf : d.params.defaults = []) (hr : Room k callerA) (hd : d.name = ("law" : Str))
    (hG : ∀ ns : List Int, ns.length ≤ n → G [.scr ns] (fun _ => none) (fun d _ => d = .bl true) (fun _ _ _ => False))
    (F : ∀ (w : World) (K : PySem.W.Frag) (mg : Str → Option Value) (fa : Addr) (h : Heap), K.In h → h.Ns mainGlobals mg → mg "law" = some (.ref fa) → SaysM fs fn K → ∃ fd : FuncData, (∀ (s : Shared) (u : Value), BindsTo s fd ⟨[u], []⟩ [(x, u)]) ∧
      ∀ base : Heap, K.In base → base.Ns mainGlobals mg → FnOk l.prog w K mg base (L2.CX l.prog w) k fa fd [x] (spD K 1 G)) :
    PySem.W.WalkO q loose XP (fun w h => ∃ K : PySem.W.Frag, K.In h ∧ SaysM fs fn K) l.row.toRowW d [] (fun f vs => PySem.call f vs) := by
  refine L2.walk_ofE (l := l) (n := n) (k := k) (x := x) (CX := fun outer H s E e s' => ∃ w, L2.CX l.prog w outer H s E e s') hn hn2 hdf hr ?_ (fun _ _ _ _ z => ?_)
  · rintro w mg fa h ⟨K, KX, c⟩ G' hmg
    rw [hd] at hmg
    obtain ⟨fd, hb, hF⟩ := F w K mg fa h KX G' hmg c
    exact ⟨K, fd, spD K 1 G, KX, hb, fun H a ns hl _ hS => law_sp hS (hG ns hl) fun _ => rfl, fun base k1 k2 => cx_imp (fun outer H s E e s' z => ⟨w, z⟩) (hF base k1 k2)⟩
  · obtain ⟨w, z⟩ := z
    exact cx_no z
end Mo

set_option Elab.async false
set_option linter.all false
set_option maxRecDepth 100000
set_option maxHeartbeats 4000000
set_option autoImplicit false
/-! Further rules: new lists handed on, method calls as statements, joins of ways. -/
namespace Mo
open PySem PySem.Spec PyProof.Rows L2
section
variable {X : Cx} {R : RX} {ro : Ro} {om : Om} {e a b c : Expr} {es : List Expr} {st : Stmt} {sts rest : List Stmt} {F : De} {pos : Pos} {x y z d : D}
/-- a def that hands back a new list -/
structure Pn (G : Fs) (om : Om) (ds zs : List D) : Prop where
  go : ∀ (Q : DK) (Rr : Value → List (Str × D) → Om → Prop), (∀ p, om p = none → Q (.obj p) (ups om p (.lst zs))) → G ds om Q Rr
instance {G : Fs} {om : Om} {ds zs : List D} : CoeFun (Pn G om ds zs) (fun _ => ∀ (Q : DK) (Rr : Value → List (Str × D) → Om → Prop), (∀ p, om p = none → Q (.obj p) (ups om p (.lst zs))) → G ds om Q Rr) := ⟨Pn.go⟩
theorem n_call {xn : Str} {k n : Nat} {G : Fs} {p : Pos} {ds zs : List D} (Dk : DefOk X.prog X.w X.K X.mg X.base xn k n G) (hr : Room k X.A) (h : wav X ro om (e :: es) ds) (hl : ds.length = n) (g : Pn G om ds zs)
    (hg : Gl X xn) (hdb : (xn == ("__debug__" : Str)) = false := by decide) (he : starEach (e :: es) X.env = (false, eval e X.env) :: starEach es X.env := by rfl) (hpl : (backTo pos (starEach es X.env)).any (·.1) = false := by rfl) :
    wn X ro om (.Call (.Name xn p) (e :: es) [] pos) zs := .mk fun R Q q => e_call Dk hr (h R _ ⟨hl, g _ _ q⟩) hg hdb he hpl
theorem ret_n {ds : List D} (h : wn X ro om e ds) (q : ∀ p, om p = none → F.rt (.obj p) (ups om p (.lst ds))) : ws X F ro om (.Return (some e) pos :: rest) := ws_cons (s_ret (h _ _ q))
theorem ret_e (h : we X F.ex ro om e F.rt) : ws X F ro om (.Return (some e) pos :: rest) := ws_cons (s_ret h)
theorem st_expr (h : we X F.ex ro om e fun _ om' => ws X F ro om' rest) (hs : swapsWith e none pos.line X.env = pure false := by rfl) : ws X F ro om (.Expr e pos :: rest) := ws_cons (s_expr h hs)
theorem st_append {o : Expr} {apos cpos : Pos} {p : Addr} {ds : List D} (ho : wv X ro om o (.obj p)) (he : wv X ro om e d) (hp : om p = some (.lst ds)) (hz : ds.length < sizeLine) (k : ws X F ro (ups om p (.lst (ds ++ [d]))) rest)
    (hbase : attributeBase o "append" X.env (eval o X.env) = eval o X.env := by rfl)
    (hfew : ((backTo cpos (starEach [e] X.env)).all (fun x => !x.1) && (backToKw cpos (keywordEach [] X.env)).all (fun x => x.1.isSome) && decide ([e].length + ([] : List Keyword).length + (if ([] : List Keyword).isEmpty then 0 else 1) < 30)) = true := by rfl)
    (hline : (apos.endLine == cpos.line) = true := by rfl) (hs : starEach [e] X.env = (false, eval e X.env) :: starEach [] X.env := by rfl) (hplain : (backTo cpos (starEach [] X.env)).any (·.1) = false := by rfl)
    (hsw : swapsWith (.Call (.Attribute o "append" apos) [e] [] cpos) none pos.line X.env = pure false := by rfl) : ws X F ro om (.Expr (.Call (.Attribute o "append" apos) [e] [] cpos) pos :: rest) :=
  st_expr (e_bm PySem.F.plainAttrs_list PySem.F.slot_list_append PySem.F.type_list_append (ho _ _ ⟨.lst (.ob hp), a_cons (he _ _ (a_nil (m_append hp hz k))) hs⟩) hbase hfew hline hs hplain) hsw
/-- .. what is appended is a new list, an object too -/
theorem st_appendE {o : Expr} {apos cpos : Pos} {p : Addr} (ho : wv X ro om o (.obj p)) (hr : Rc om (.obj p) "list") (he : we X F.ex ro om e fun d om' => ∃ ds, om' p = some (.lst ds) ∧ ds.length < sizeLine ∧ ws X F ro (ups om' p (.lst (ds ++ [d]))) rest)
    (hbase : attributeBase o "append" X.env (eval o X.env) = eval o X.env := by rfl)
    (hfew : ((backTo cpos (starEach [e] X.env)).all (fun x => !x.1) && (backToKw cpos (keywordEach [] X.env)).all (fun x => x.1.isSome) && decide ([e].length + ([] : List Keyword).length + (if ([] : List Keyword).isEmpty then 0 else 1) < 30)) = true := by rfl)
    (hline : (apos.endLine == cpos.line) = true := by rfl) (hs : starEach [e] X.env = (false, eval e X.env) :: starEach [] X.env := by rfl) (hplain : (backTo cpos (starEach [] X.env)).any (·.1) = false := by rfl)
    (hsw : swapsWith (.Call (.Attribute o "append" apos) [e] [] cpos) none pos.line X.env = pure false := by rfl) : ws X F ro om (.Expr (.Call (.Attribute o "append" apos) [e] [] cpos) pos :: rest) :=
  st_expr (e_bm PySem.F.plainAttrs_list PySem.F.slot_list_append PySem.F.type_list_append (ho _ _ ⟨hr, a_cons (we_mono he fun d om' ⟨ds, h1, h2, h3⟩ => a_nil (m_append h1 h2 h3)) hs⟩) hbase hfew hline hs hplain) hsw
theorem st_extend {o : Expr} {apos cpos : Pos} {p : Addr} {ds es' : List D} (ho : wv X ro om o (.obj p)) (he : wv X ro om e y) (hp : om p = some (.lst ds)) (l : Lr om y es') (hz : ds.length + es'.length ≤ sizeLine) (k : ws X F ro (ups om p (.lst (ds ++ es'))) rest)
    (hbase : attributeBase o "extend" X.env (eval o X.env) = eval o X.env := by rfl)
    (hfew : ((backTo cpos (starEach [e] X.env)).all (fun x => !x.1) && (backToKw cpos (keywordEach [] X.env)).all (fun x => x.1.isSome) && decide ([e].length + ([] : List Keyword).length + (if ([] : List Keyword).isEmpty then 0 else 1) < 30)) = true := by rfl)
    (hline : (apos.endLine == cpos.line) = true := by rfl) (hs : starEach [e] X.env = (false, eval e X.env) :: starEach [] X.env := by rfl) (hplain : (backTo cpos (starEach [] X.env)).any (·.1) = false := by rfl)
    (hsw : swapsWith (.Call (.Attribute o "extend" apos) [e] [] cpos) none pos.line X.env = pure false := by rfl) : ws X F ro om (.Expr (.Call (.Attribute o "extend" apos) [e] [] cpos) pos :: rest) :=
  st_expr (e_bm PySem.F.plainAttrs_list PySem.F.slot_list_extend PySem.F.type_list_extend (ho _ _ ⟨.lst (.ob hp), a_cons (he _ _ (a_nil (m_extend hp l hz k))) hs⟩) hbase hfew hline hs hplain) hsw
theorem st_clear {o : Expr} {apos cpos : Pos} {p : Addr} {ds : List D} (ho : wv X ro om o (.obj p)) (hp : om p = some (.lst ds)) (k : ws X F ro (ups om p (.lst [])) rest)
    (hbase : attributeBase o "clear" X.env (eval o X.env) = eval o X.env := by rfl) (hline : (apos.endLine == cpos.line) = true := by rfl)
    (hsw : swapsWith (.Call (.Attribute o "clear" apos) [] [] cpos) none pos.line X.env = pure false := by rfl) : ws X F ro om (.Expr (.Call (.Attribute o "clear" apos) [] [] cpos) pos :: rest) :=
  st_expr (e_bm0 PySem.F.plainAttrs_list PySem.F.slot_list_clear PySem.F.type_list_clear (ho _ _ ⟨.lst (.ob hp), m_clear hp k⟩) hbase hline) hsw
/-- if c: return .. -/
theorem st_if {k : Bool} {sa sb : List Stmt} (h : wtv X ro om c k) (h1 : k = true → ws X { F with nx := fun ro' om' => ws X F ro' om' rest } ro om sa) (h2 : k = false → ws X { F with nx := fun ro' om' => ws X F ro' om' rest } ro om sb) : ws X F ro om (.If c sa sb pos :: rest) := ws_cons (s_if h h1 h2)
/-- .. its way known -/
theorem st_ifT {sa sb : List Stmt} (h : wtv X ro om c true) (h1 : ws X { F with nx := fun ro' om' => ws X F ro' om' rest } ro om sa) : ws X F ro om (.If c sa sb pos :: rest) := st_if h (fun _ => h1) (fun z => by cases z)
theorem st_ifF {sa : List Stmt} (h : wtv X ro om c false) (h1 : ws X F ro om rest) : ws X F ro om (.If c sa [] pos :: rest) := st_if h (fun z => by cases z) (fun _ => ws_nil h1)
/-- .. a way that is not gone -/
theorem st_no {k : Bool} {sa : List Stmt} (h : wtv X ro om c k) (hk : k = false) (h1 : ws X F ro om rest) : ws X F ro om (.If c sa [] pos :: rest) := st_ifF (wtv_is h hk) h1
theorem st_yes {k : Bool} {sa sb : List Stmt} (h : wtv X ro om c k) (hk : k = true) (h1 : ws X { F with nx := fun ro' om' => ws X F ro' om' rest } ro om sa) : ws X F ro om (.If c sa sb pos :: rest) := st_ifT (wtv_is h hk) h1
/-- if c: .. without else; the body leaves -/
theorem st_when {k : Bool} {sa : List Stmt} (h : wtv X ro om c k) (h1 : k = true → ws X { F with nx := fun ro' om' => ws X F ro' om' rest } ro om sa) (h2 : k = false → ws X F ro om rest) : ws X F ro om (.If c sa [] pos :: rest) := st_if h h1 (fun z => ws_nil (h2 z))
/-- if c: name = e -/
theorem Lo.ifV {i : Nat} {xn : Str} {pos' p2 : Pos} {k : Bool} {d0 : D} (l : Lo X i xn) (nd : X.N.Nodup) (h : wtv X ro om c k) (h1 : k = true → wv X ro om e d) (h0 : ro[i]? = some (some d0))
    (nx : ws X F (ro.set i (some (if k = true then d else d0))) om rest) (hs : swapsWith e (some (.Name xn pos')) p2.line X.env = pure false := by rfl) : ws X F ro om (.If c [.Assign [.Name xn pos'] e p2] [] pos :: rest) := by
  refine ws_cons (s_if h (fun hk => ws_one (l.asg nd (h1 hk _ _ ?_) hs)) (fun hk => ws_nil ?_))
  · subst hk
    exact nx
  · subst hk
    have e : ro.set i (some d0) = ro := by
      obtain ⟨hl, q⟩ := List.getElem?_eq_some_iff.mp h0
      rw [← q, List.set_getElem_self]
    have nx' : ws X F (ro.set i (some d0)) om rest := nx
    rw [e] at nx'
    exact nx'
/-- the loop over data whose items are of one form -/
theorem st_for {tg iter : Expr} {body : List Stmt} {ds : List D} {Pm : Om → Prop} {g : TG} {U : D → Ro → Ro} (hi : Itd X ro om tg iter ds Pm) (I : Nat → Ro → Om → Prop) (h0 : I 0 ro om) (hP : ∀ i ro' om', I i ro' om' → Pm om')
    (hT : ∀ d, d ∈ ds → Tg X tg d (U d) g) (hs : ∀ (i : Nat) (d : D) (ro' : Ro) (om' : Om), ds[i]? = some d → I i ro' om' → ws X { F with nx := I (i + 1), ct := I (i + 1), bk := fun ro' om' => ws X F ro' om' rest } (U d ro') om' body)
    (hd : ∀ ro' om', I ds.length ro' om' → ws X F ro' om' rest) (hg : PG X tg g) (hp : PassesOwn (model X.prog X.w) X.A X.env X.xe) (hc : X.calm = true) (hfo : ∀ x, foldedSetIterable iter X.env x = pure x := by intro _; rfl) : ws X F ro om (.For tg iter body [] pos :: rest) :=
  ws_cons (w_for (F := { F with nx := fun ro' om' => ws X F ro' om' rest }) hi I h0 hP hT hs hd hg hp hc hfo)
theorem Lo.pg {i : Nat} {xn : Str} {p : Pos} (l : Lo X i xn) (nd : X.N.Nodup) : PG X (.Name xn p) (gName i) := pg_name nd l.at_ l.loc (.inl l.fn)
theorem Lo.pg2 {i j : Nat} {xn yn : Str} {p q tp : Pos} {k : Nat} (l : Lo X i xn) (m : Lo X j yn) (nd : X.N.Nodup) (hc : X.calm = true) (hn : (assignEach [.Name xn p, .Name yn q] X.env).length = 2 := by rfl) (hst : (assignEach [.Name xn p, .Name yn q] X.env).findIdx? (·.1) = none := by rfl) :
    PG X (.Tuple [.Name xn p, .Name yn q] k tp) (gTup X.K 2 (gCons (gName i) (gCons (gName j) gNil))) := pg_tup hc (pgs_cons (l.pg nd) (pgs_cons (m.pg nd) pgs_nil)) hn hst
end
/-! ### comprehensions -/
/-- om' holds all that om holds -/
def Ext (om om' : Om) : Prop := ∀ a o, om a = some o → om' a = some o
theorem Ext.ups {om : Om} {p : Addr} {o : DO} (h : om p = none) : Ext om (ups om p o) := fun a u e => by
  rw [ups_ne (fun z => by subst z; rw [h] at e; cases e)]
  exact e
section
variable {X : Cx} {R : RX} {ro : Ro} {om : Om} {elt tg iter : Expr} {scope : Scope} {own : List (Str × Nat)} {pos : Pos} {g : TG}
/-- the element of a comprehension, for the item d, within its block -/
def We (X : Cx) (ro : Ro) (om : Om) (scope : Scope) (elt : Expr) (z : D) : Prop := ∀ (s : Shared) (H : Hp) (C : Addr) (cl : List (Str × Addr)) (fp : List Addr) (om' : Om), Ext om om' → wv (X.blk s H scope (compEnvC scope cl C X.env) fp) ro om' elt z
def wipeD (ro : Ro) : List Nat → Ro
  | [] => ro
  | v :: vs => (wipeD ro vs).set v none
theorem Ok.wipe {K : PySem.W.Frag} {om0 om1 : Om} {H0 H1 : Hp} {σ : L2.St} (o : Ok K om0 H0 om1 H1 σ ro) : ∀ vs : List Nat, Ok K om0 H0 om1 H1 (L2.wipe σ vs) (wipeD ro vs)
  | [] => o
  | v :: vs => (Ok.wipe o vs).unset v
theorem lc_rd {ds zs : List D} {Pm : Om → Prop} {U : D → Ro → Ro} (hi : Itd X ro om tg iter ds Pm) (hP : ∀ om', Ext om om' → Pm om') (hl : zs.length = ds.length) (hz : ds.length ≤ 100000)
    (hT : ∀ (s : Shared) (H : Hp) (C : Addr) (cl : List (Str × Addr)) (fp : List Addr) (d : D), d ∈ ds → Tg (X.blk s H scope (compEnvC scope cl C X.env) fp) tg d (U d) g)
    (hU : ∀ σ v H0 (Q : L2.St → Hp → Prop), g v (L2.wipe σ (own.map (·.2))) H0 Q → g v (L2.wipe σ (own.map (·.2))) H0 fun σ2 H2 => L2.wipe σ2 (own.map (·.2)) = L2.wipe σ (own.map (·.2)) ∧ Q σ2 H2)
    (he : ∀ (i : Nat) (d z : D), ds[i]? = some d → zs[i]? = some z → We X (U d (wipeD ro (own.map (·.2)))) om scope elt z)
    {om0 : Om} {H0 : Hp} (t : Tk X om0 H0 R) {σ : L2.St} {H : Hp} (o : Ok X.K om0 H0 om H σ ro) {Qv : VK} (q : ∀ p H', om p = none → Ok X.K om0 H0 (ups om p (.lst zs)) H' σ ro → Qv (.ref p) H') :
    tLc (pI X tg iter) g tYes (fun σ2 H2 Q2 => ∀ s H C cl fp, pE (X.blk s H scope (compEnvC scope cl C X.env) fp) elt σ2 H2 Q2) (own.map (·.2)) σ H Qv := by
  refine fun pins s I => wpAny_mono (hi R om0 H0 t σ H o pins s I) (fun v s1 h1 => thn h1 fun itv s2 ⟨it, fp, tn, J, H2, e2, I2, T2, st2, f2, o2, j2⟩ => ?_) (fun _ _ x => x)
  refine ⟨it, fp, tn, J, H2, e2, I2, T2, st2, f2, fun Dl hD => ?_⟩
  have hDo : om Dl = none := o2.store.fresh hD
  refine ⟨fun i m H' => m = ds.length - i ∧ i ≤ ds.length ∧ Ok X.K om0 H0 (ups om Dl (.lst (zs.take i))) H' σ ro ∧ Stable om H2 (ups om Dl (.lst (zs.take i))) H', ⟨ds.length, by simp, Nat.zero_le _, o2.newl hD rfl, Stable.mk hD⟩, ?_⟩
  rintro i m H3 ⟨rfl, hle, o3, s3⟩
  obtain ⟨xsD, hxD, rD⟩ := o3.store Dl _ ups_same
  -- the iterator goes on: seen from the store without the new list
  have j3 := j2 (ups om Dl (.lst (zs.take i))) H3 o3.store s3 (hP _ (Ext.ups hDo))
  by_cases hlt : i < ds.length
  · have hlt2 : i < zs.length := by omega
    refine .inr ⟨(j3.1 i ds[i] (List.getElem?_eq_getElem hlt)).1, fun H' => Ok X.K om0 H0 (ups om Dl (.lst (zs.take (i + 1)))) H' σ ro ∧ Stable om H2 (ups om Dl (.lst (zs.take (i + 1)))) H', fun H' ⟨q1, q2⟩ => ⟨ds.length - (i + 1), by omega, rfl, hlt, q1, q2⟩, fun x' H4 y4 => ?_⟩
    obtain ⟨S4, s4, r4⟩ := (j3.1 i ds[i] (List.getElem?_eq_getElem hlt)).2 x' H4 y4
    have o4 := o3.to S4 s4
    refine hU σ x' H4 _ (hT s H (0 : Nat) [] [] ds[i] (List.getElem_mem hlt) om0 H0 _ H4 (L2.wipe σ (own.map (·.2))) (wipeD ro (own.map (·.2))) x' _ (o4.wipe _) r4 fun σ5 o5 => ?_)
    unfold tYes
    simp only [if_true]
    intro s' H' C cl fp'
    have we5 := he i ds[i] zs[i] (List.getElem?_eq_getElem hlt) (List.getElem?_eq_getElem hlt2) s' H' C cl fp' (ups om Dl (.lst (zs.take i))) (Ext.ups hDo) (fun _ _ _ _ => False) (fun d om' => d = zs[i] ∧ om' = ups om Dl (.lst (zs.take i))) ⟨rfl, rfl⟩
    refine pE_mono (we5 (ups om Dl (.lst (zs.take i))) H4 Tk.no σ5 H4 ⟨o5.store, Stable.refl, o5.slot, o5.len⟩) fun v6 H6 ⟨d6, om6, ⟨e1, e2⟩, o6, r6⟩ => ?_
    subst e1 e2
    obtain ⟨xs6, hx6, rD6⟩ := o6.store Dl _ ups_same
    have ht : zs.take (i + 1) = zs.take i ++ [zs[i]] := by rw [List.take_succ_eq_append_getElem hlt2]
    have e6 : ups (ups om Dl (.lst (zs.take i))) Dl (.lst (zs.take (i + 1))) = ups om Dl (.lst (zs.take (i + 1))) := ups_ups
    have St6 : Stable (ups om Dl (.lst (zs.take i))) H6 (ups om Dl (.lst (zs.take (i + 1)))) (upd H6 Dl (.lst (xs6 ++ [v6]))) := by rw [← e6]; exact Stable.put ups_same
    have So6 : StoreOk X.K (ups om Dl (.lst (zs.take (i + 1)))) (upd H6 Dl (.lst (xs6 ++ [v6]))) := by
      rw [← e6]
      refine o6.store.put ups_same ⟨_, upd_same, ?_⟩
      have q6 : RepL X.K (ups om Dl (.lst (zs.take i))) H6 (zs.take (i + 1)) (xs6 ++ [v6]) := by
        rw [ht]
        exact rD6.app (RepL.one r6)
      exact q6.mono (Stable.put ups_same)
    have o4' : Ok X.K om0 H0 (ups om Dl (.lst (zs.take i))) H4 σ ro := o4
    refine ⟨xs6, hx6, ?_, (o4'.to o6.store o6.stab).to So6 St6, ((s3.trans s4).trans o6.stab).trans St6⟩
    rw [← rD6.length, List.length_take]
    have : sizeLine = 16777216 := sizeLine_eq
    omega
  · have ei : i = ds.length := by omega
    subst ei
    refine .inl ⟨j3.2, q Dl _ hDo ?_⟩
    have ht : zs.take ds.length = zs := List.take_of_length_le (by omega)
    rw [ht] at o3
    exact o3
theorem n_lc {ds zs : List D} {Pm : Om → Prop} {U : D → Ro → Ro} (hi : Itd X ro om tg iter ds Pm) (hP : ∀ om', Ext om om' → Pm om') (hl : zs.length = ds.length) (hz : ds.length ≤ 100000)
    (hT : ∀ (s : Shared) (H : Hp) (C : Addr) (cl : List (Str × Addr)) (fp : List Addr) (d : D), d ∈ ds → Tg (X.blk s H scope (compEnvC scope cl C X.env) fp) tg d (U d) g)
    (hU : ∀ σ v H0 (Q : L2.St → Hp → Prop), g v (L2.wipe σ (own.map (·.2))) H0 Q → g v (L2.wipe σ (own.map (·.2))) H0 fun σ2 H2 => L2.wipe σ2 (own.map (·.2)) = L2.wipe σ (own.map (·.2)) ∧ Q σ2 H2)
    (he : ∀ (i : Nat) (d z : D), ds[i]? = some d → zs[i]? = some z → We X (U d (wipeD ro (own.map (·.2)))) om scope elt z)
    (ok : BlkOk X.N X.env.scope scope own) (hg : ∀ (s : Shared) (H : Hp) (C : Addr) (cl : List (Str × Addr)) (fp : List Addr), PG (X.blk s H scope (compEnvC scope cl C X.env) fp) tg g)
    (hc : X.calm = true) (hN : X.N.Nodup) (hs : ∀ x, foldedSetIterable iter X.env x = pure x := by intro _; rfl) : wn X ro om (.ListComp elt [⟨tg, iter, [], 0⟩] scope pos) zs := .mk fun R Q q => .mk fun om0 H0 t σ H o =>
  pE_of (pe_lc hc hN pI_pi ok hg (fun _ _ _ _ _ => pts_nil) (fun s H C cl fp => ⟨fun pins s' σ' H' Q' I h => h s H C cl fp pins s' I⟩) hs) (lc_rd hi hP hl hz hT hU he t o fun p H' hp o' => ⟨_, _, q p hp, o', rfl⟩)
/-- name = [.. for ..] -/
theorem Lo.lcW {i : Nat} {xn : Str} {pos' spos : Pos} {F : De} {rest : List Stmt} {ds zs : List D} {Pm : Om → Prop} {U : D → Ro → Ro} (l : Lo X i xn) (hy : X.env.scope.names.lookup xn = some .local) (hi : Itd X ro om tg iter ds Pm) (hP : ∀ om', Ext om om' → Pm om') (hl : zs.length = ds.length) (hz : ds.length ≤ 100000)
    (hT : ∀ (s : Shared) (H : Hp) (C : Addr) (cl : List (Str × Addr)) (fp : List Addr) (d : D), d ∈ ds → Tg (X.blk s H scope (compEnvC scope cl C X.env) fp) tg d (U d) g)
    (hU : ∀ σ v H0 (Q : L2.St → Hp → Prop), g v (L2.wipe σ (own.map (·.2))) H0 Q → g v (L2.wipe σ (own.map (·.2))) H0 fun σ2 H2 => L2.wipe σ2 (own.map (·.2)) = L2.wipe σ (own.map (·.2)) ∧ Q σ2 H2)
    (he : ∀ (i : Nat) (d z : D), ds[i]? = some d → zs[i]? = some z → We X (U d (wipeD ro (own.map (·.2)))) om scope elt z)
    (ok : BlkOk X.N X.env.scope scope own) (hg : ∀ (s : Shared) (H : Hp) (C : Addr) (cl : List (Str × Addr)) (fp : List Addr), PG (X.blk s H scope (compEnvC scope cl C X.env) fp) tg g)
    (hc : X.calm = true) (hN : X.N.Nodup) (hsw : swapsWith (.ListComp elt [⟨tg, iter, [], 0⟩] scope pos) (some (.Name xn pos')) spos.line X.env = pure true) (k : ∀ p, om p = none → ws X F (ro.set i (some (.obj p))) (ups om p (.lst zs)) rest)
    (hs : ∀ x, foldedSetIterable iter X.env x = pure x := by intro _; rfl) : ws X F ro om (.Assign [.Name xn pos'] (.ListComp elt [⟨tg, iter, [], 0⟩] scope pos) spos :: rest) := ws_cons <| .mk fun om0 H0 t σ H o =>
  pS_of (ps_setLc hc hN l.at_ hy hsw pI_pi ok hg (fun _ _ _ _ _ => pts_nil) (fun s H C cl fp => ⟨fun pins s' σ' H' Q' I h => h s H C cl fp pins s' I⟩) hs) (lc_rd hi hP hl hz hT hU he t o fun p H' hp o' => ⟨_, _, k p hp, o'.set i rfl⟩)
/-! one name -/
/-- the block's scope, as a test -/
def blkB (N : List Str) (sc scope : Scope) (own : List (Str × Nat)) : Bool := decide (scope.kind = .function) && scope.names.all (fun y => decide (scope.names.lookup y.1 = some y.2)) && own.all (fun p => decide (N[p.2]? = some p.1)) &&
  scope.names.all (fun y => decide (y.2 = .free → sc.names.lookup y.1 = some .cell ∨ sc.names.lookup y.1 = some .free)) && scope.names.all (fun y => decide (y.2 = .local ∨ y.2 = .cell → y.1 ∈ own.map (·.1) ∨ y.1 ∉ N))
theorem blk_ok {N : List Str} {sc : Scope} (hN : X.N = N) (hs : X.env.scope = sc) (h : blkB N sc scope own = true) : BlkOk X.N X.env.scope scope own := by
  rw [hN, hs]
  unfold blkB at h
  simp only [Bool.and_eq_true, List.all_eq_true, decide_eq_true_eq] at h
  obtain ⟨⟨⟨⟨h1, h2⟩, h3⟩, h4⟩, h5⟩ := h
  exact ⟨h1, h2, h3, h4, h5⟩
theorem lc_hU {i : Nat} {xn : Str} : ∀ σ v H0 (Q : L2.St → Hp → Prop), gName i v (L2.wipe σ ([(xn, i)].map (·.2))) H0 Q → gName i v (L2.wipe σ ([(xn, i)].map (·.2))) H0 fun σ2 H2 => L2.wipe σ2 ([(xn, i)].map (·.2)) = L2.wipe σ ([(xn, i)].map (·.2)) ∧ Q σ2 H2 := fun σ v H0 Q h => by
  refine ⟨?_, h⟩
  show (((σ.set i none).set i (some v)).set i none) = σ.set i none
  rw [List.set_set, List.set_set]
theorem lc_hg {i : Nat} {xn : Str} {p : Pos} (hN : X.N.Nodup) (hi : X.N[i]? = some xn) (hl : (scope.names.lookup xn == some .local) = true) : ∀ (s : Shared) (H : Hp) (C : Addr) (cl : List (Str × Addr)) (fp : List Addr), PG (X.blk s H scope (compEnvC scope cl C X.env) fp) (.Name xn p) (gName i) :=
  fun s H C cl fp => by
    have e : (X.blk s H scope (compEnvC scope cl C X.env) fp).env.scope.names.lookup xn = some .local := lookup_relabel_local (beq_iff_eq.mp hl)
    exact pg_name hN hi (.inl e) (.inr e)
/-- .. for one name in the i-th slot -/
theorem n_lc1 {ds zs : List D} {Pm : Om → Prop} {xn : Str} {p : Pos} (i : Nat) {N : List Str} {sc : Scope} (hN : X.N = N) (hsc : X.env.scope = sc) (nd : X.N.Nodup) (hc : X.calm = true) (hb : blkB N sc scope [(xn, i)] = true) (hl : (scope.names.lookup xn == some .local) = true)
    (hi : Itd X ro om (.Name xn p) iter ds Pm) (hP : ∀ om', Ext om om' → Pm om') (hll : zs.length = ds.length) (hz : ds.length ≤ 100000)
    (he : ∀ (j : Nat) (d z : D), ds[j]? = some d → zs[j]? = some z → We X ((ro.set i none).set i (some d)) om scope elt z) (hs : ∀ x, foldedSetIterable iter X.env x = pure x := by intro _; rfl) : wn X ro om (.ListComp elt [⟨.Name xn p, iter, [], 0⟩] scope pos) zs := by
  have ok : BlkOk X.N X.env.scope scope [(xn, i)] := blk_ok hN hsc hb
  exact n_lc (own := [(xn, i)]) (g := gName i) (U := fun d ro => ro.set i (some d)) hi hP hll hz (fun _ _ _ _ _ _ _ => tg_name i) lc_hU he ok (lc_hg nd (ok.ix (xn, i) List.mem_cons_self) hl) hc nd hs
theorem Lo.lc1 {ds zs : List D} {Pm : Om → Prop} {xn yn : Str} {p pos' spos : Pos} {F : De} {rest : List Stmt} {k : Nat} (i : Nat) {N : List Str} {sc : Scope} (l : Lo X k yn) (hN : X.N = N) (hsc : X.env.scope = sc) (nd : X.N.Nodup) (hc : X.calm = true) (hb : blkB N sc scope [(xn, i)] = true) (hl : (scope.names.lookup xn == some .local) = true) (hy : (sc.names.lookup yn == some .local) = true)
    (hi : Itd X ro om (.Name xn p) iter ds Pm) (hP : ∀ om', Ext om om' → Pm om') (hll : zs.length = ds.length) (hz : ds.length ≤ 100000)
    (he : ∀ (j : Nat) (d z : D), ds[j]? = some d → zs[j]? = some z → We X ((ro.set i none).set i (some d)) om scope elt z)
    (hsw : swapsWith (.ListComp elt [⟨.Name xn p, iter, [], 0⟩] scope pos) (some (.Name yn pos')) spos.line X.env = pure true) (kk : ∀ q, om q = none → ws X F (ro.set k (some (.obj q))) (ups om q (.lst zs)) rest) (hs : ∀ x, foldedSetIterable iter X.env x = pure x := by intro _; rfl) :
    ws X F ro om (.Assign [.Name yn pos'] (.ListComp elt [⟨.Name xn p, iter, [], 0⟩] scope pos) spos :: rest) := by
  have ok : BlkOk X.N X.env.scope scope [(xn, i)] := blk_ok hN hsc hb
  exact Lo.lcW (own := [(xn, i)]) (g := gName i) (U := fun d ro => ro.set i (some d)) l (by rw [hsc]; exact beq_iff_eq.mp hy) hi hP hll hz (fun _ _ _ _ _ _ _ => tg_name i) lc_hU he ok (lc_hg nd (ok.ix (xn, i) List.mem_cons_self) hl) hc nd hsw kk hs
/-! names within a block -/
theorem lookup_relabel {env : Env} : ∀ {names : List (Str × NameKind)} {x : Str} {k : NameKind}, names.lookup x = some k → k ≠ .free →
    (names.map fun (n, k) => if (k == NameKind.free && env.scope.kind == .function && env.kindOf n == some .cell) then (n, NameKind.cell) else (n, k)).lookup x = some k
  | [], _, _, h, _ => by simp at h
  | (n, j) :: r, x, k, h, hk => by
    rw [List.lookup_cons] at h
    rw [List.map_cons]
    by_cases e : x = n
    · subst e
      rw [beq_self_eq_true] at h
      cases h
      have hf : (j == NameKind.free) = false := by simpa using hk
      simp only [hf, Bool.false_and, Bool.false_eq_true, if_false, List.lookup_cons, beq_self_eq_true]
    · have e2 : (x == n) = false := by simpa using e
      rw [e2] at h
      have ih := lookup_relabel (env := env) h hk
      dsimp only
      split
      all_goals
        rw [List.lookup_cons, e2]
        exact ih
theorem lookup_relabelF {env : Env} : ∀ {names : List (Str × NameKind)} {x : Str}, names.lookup x = some .free →
    (names.map fun (n, k) => if (k == NameKind.free && env.scope.kind == .function && env.kindOf n == some .cell) then (n, NameKind.cell) else (n, k)).lookup x = some .free ∨
    (names.map fun (n, k) => if (k == NameKind.free && env.scope.kind == .function && env.kindOf n == some .cell) then (n, NameKind.cell) else (n, k)).lookup x = some .cell
  | [], _, h => by simp at h
  | (n, j) :: r, x, h => by
    rw [List.lookup_cons] at h
    rw [List.map_cons]
    by_cases e : x = n
    · subst e
      rw [beq_self_eq_true] at h
      cases h
      dsimp only
      split
      · right; rw [List.lookup_cons, beq_self_eq_true]
      · left; rw [List.lookup_cons, beq_self_eq_true]
    · have e2 : (x == n) = false := by simpa using e
      rw [e2] at h
      have ih := lookup_relabelF (env := env) h
      dsimp only
      split
      all_goals
        rw [List.lookup_cons, e2]
        exact ih
theorem blk_name {i : Nat} {x : Str} {s : Shared} {H : Hp} {C : Addr} {cl : List (Str × Addr)} {fp : List Addr} (n : X.N[i]? = some x) (h : visB scope x = true) : NameAt (X.blk s H scope (compEnvC scope cl C X.env) fp) i x := by
  unfold visB at h
  simp only [Bool.and_eq_true, Bool.or_eq_true, Bool.not_eq_true', beq_iff_eq] at h
  obtain ⟨⟨hv, h2⟩, h3⟩ := h
  refine ⟨n, ?_, h2, h3⟩
  rcases hv with (hv | hv) | hv
  · exact .inl (lookup_relabel hv (by decide))
  · exact .inr (.inl (lookup_relabel hv (by decide)))
  · exact (lookup_relabelF (env := X.env) hv).elim (fun q => .inr (.inr q)) (fun q => .inr (.inl q))
theorem blk_gl {x : Str} {s : Shared} {H : Hp} {C : Addr} {cl : List (Str × Addr)} {fp : List Addr} (h : gloB scope x = true) : Gl (X.blk s H scope (compEnvC scope cl C X.env) fp) x :=
  lookup_relabel (beq_iff_eq.mp h) (by decide)
end
end Mo

set_option Elab.async false
set_option linter.all false
set_option maxRecDepth 100000
set_option maxHeartbeats 4000000
set_option autoImplicit false
/-! Exceptions: raise, try with any clauses; what is caught is an object of the store. -/
namespace Mo
open PySem PySem.Spec PyProof.Rows L2

/-! ### what is caught is tracked -/
theorem exH_ok {P : Program} {w : World} {H : Hp} {h : Heap} {a C : Addr} {d : Option Addr} {oe : Obj} {vs : Array Value} (e : h.get? a = some oe) (z : Zc (.ref C) d oe) (k : oe.data = .fields vs) : ObjOk P w H h a (ExH C d a) :=
  ⟨⟨oe, vs, e, z, k⟩, ⟨oe, e⟩, fun _ _ ⟨o, v, q, r⟩ k => ⟨o, v, k o q, r⟩⟩
section
variable {X : Cx} {pins : List (Addr × Obj)} {σ : L2.St} {H : Hp} {sI s s' : Shared} {B : Heap} {a : Addr} {o : HO}
theorem landX (J : Inv X pins σ H sI) (nb : ∀ b o, sI.heap.get? b = some o → b ∉ frs X.stack → B.get? b = some o) (stays : B.StaysIn s'.heap) (up : sI.heap.UpToSlots s'.heap) (os : s'.os = sI.os) (ag : AllBare s'.gens) (na : H a = none) (ng : sI.heap.get? a = none)
    (new : ObjOk X.prog X.w (upd H a o) s'.heap a o) : Inv X pins σ (upd H a o) s' := by
  have nf : ∀ b ∈ frs X.stack, ∀ u, sI.heap.get? b = some u → ∃ sl, s'.heap.get? b = some { u with slots := sl } := fun b kb u e => by
    obtain ⟨_, u', e', hd⟩ := J.stack.mem kb
    rw [e] at e'
    cases e'
    exact up b u e hd
  have ne : ∀ b u, sI.heap.get? b = some u → b ≠ a := fun b u e z => by rw [z, ng] at e; cases e
  have K := J.call (ch := []) (h' := s'.heap) (g' := s'.gens) (t' := s'.toks) (d' := s'.drawn) (H' := upd H a o)
    ⟨fun b u e _ kb _ => stays b u (nb b u e kb), fun b u e _ kb _ => nf b kb u e, fun b u e n _ => by rw [upd_ne (ne b u e)]; exact n,
      fun b u e _ => (by
        by_cases kb : b ∈ frs X.stack
        · obtain ⟨sl, q⟩ := nf b kb u e
          exact ⟨_, q⟩
        · exact ⟨u, stays b u (nb b u e kb)⟩),
      fun b xs e => by rw [upd_ne (ne_of_none e na)]; exact e, fun b u xs e => by rw [upd_ne (ne_of_none e na)]; exact e, fun b ps e => ⟨#[], by rw [upd_ne (ne_of_none e na), e]; simp⟩⟩
    (HOk.laidN ((J.inGround nb).kept stays) (fun _ _ e => e) na new) ag (fun _ z => nomatch z)
  obtain ⟨a1, a2, a3, a4, a5⟩ := s'
  obtain rfl : a5 = sI.os := os
  exact K
theorem inSuite (I : Inv X pins σ H s) (a : Addr) : Inv (X.suite a (X.pn ++ pins)) [] σ H s :=
  ⟨I.ok.suite _ _, I.os, I.bare, I.base, I.loc, I.cell, I.free, I.freeC, fun p kp => I.pin p (by rw [List.append_nil] at kp; exact kp), I.hok, I.len⟩
theorem offSuite {pn' : List (Addr × Obj)} (I : Inv (X.suite a (X.pn ++ pins)) pn' σ H s) (ok : X.Ok) : Inv X pins σ H s :=
  ⟨ok, I.os, I.bare, I.base, I.loc, I.cell, I.free, I.freeC, fun p kp => I.pin p (List.mem_append_left _ kp), I.hok, I.len⟩
end

/-! ### try -/
/-- no exception -/
def xNo : RX := fun _ _ _ _ => False
/-- behind a suite the clause's name goes -/
def De.gone (F : De) (i : Nat) : De := { nx := fun ro om => F.nx (ro.set i none) om, rt := F.rt, bk := fun ro om => F.bk (ro.set i none) om, ct := fun ro om => F.ct (ro.set i none) om, ex := xNo }
def De.calm (F : De) : De := { F with ex := xNo }
/-- what the clauses want of an exception of the body -/
def hEx (X : Cx) (F : De) : List ExceptHandler → RX
  | [] => F.ex
  | .ExceptHandler (some (.Name x _)) none (b :: bs) _ :: r => fun c fs ro om => ∃ (cv : Value) (k : Bool), Names X x cv ∧ PySem.W.exmOne X.K c cv = some k ∧
      (k = true → ∃ C, c = .ref C ∧ ∀ a pn, om a = none → ws (X.suite a pn) F.calm ro (ups om a (.exc C fs)) (b :: bs)) ∧ (k = false → hEx X F r c fs ro om)
  | .ExceptHandler (some (.Name x _)) (some n) (b :: bs) _ :: r => fun c fs ro om => ∃ (cv : Value) (k : Bool) (i : Nat), Names X x cv ∧ X.N[i]? = some n ∧ X.env.kindOf n = some .local ∧ PySem.W.exmOne X.K c cv = some k ∧
      (k = true → ∃ C, c = .ref C ∧ ∀ a pn, om a = none → ws (X.suite a pn) (F.gone i) (ro.set i (some (.obj a))) (ups om a (.exc C fs)) (b :: bs)) ∧ (k = false → hEx X F r c fs ro om)
  | _ :: _ => xNo
section
variable {X : Cx} {F : De} {ro : Ro} {om : Om} {body : List Stmt} {h₀ : ExceptHandler} {hds : List ExceptHandler} {pos : Pos}
theorem w_try (stk : X.stack = X.env :: X.outer) (frm : X.env.frame = some X.env.locals) (nd : X.N.Nodup)
    (hb : ∀ (pn : List (Addr × Obj)) (xe : Value → Shared → Prop), PassesOwn (model X.prog X.w) X.A X.env xe → ws (X.tr pn xe) { F with ex := hEx X F (h₀ :: hds) } ro om body) : w1 X F ro om (.Try body (h₀ :: hds) [] [] pos) := .mk fun om0 H0 t σ H o pins s I => by
  have ok := I.ok
  have hfr : X.A.frames = some (X.env :: X.outer) := by rw [ok.frames, stk]
  refine wpAny_Try_except ?_
  let xe' : Value → Shared → Prop := fun e s₁ => wpAny (model X.prog X.w) X.A (noteFrame e X.env) (fun _ s₂ => wpAny (model X.prog X.w) X.A (setFlight e none)
    (fun _ s₃ => wpAny (model X.prog X.w) X.A (handleBy e X.env (h₀ :: hds)) (SP X pins (ends X.K om0 H0 F)) X.xe s₃) X.xe s₂) X.xe s₁
  have tk : Tk (X.tr (X.pn ++ pins) xe') om0 H0 (hEx X F (h₀ :: hds)) := fun u s' xx => by
    obtain ⟨a, B, sI, pins', σ1, H1, cls, d, rfl, J', nb, up, sky, na, os, ag, fs, ro1, om1, w, o1, x1⟩ := xx
    have J : Inv X pins σ1 H1 sI := J'.ofTry ok
    have sky1 : Sky B (X.env :: X.outer) a (Zc cls d) X.env.locals s'.heap := by rw [← stk]; exact sky
    show wpAny (model X.prog X.w) X.A (noteFrame (.ref a) X.env) _ _ _
    refine Sky.land Zc.steady hfr frm sky1 fun h3 fl3 up3 => ?_
    have J3 : Inv X pins σ1 H1 { s' with heap := h3 } := J.landed nb fl3.1 (up.trans up3) os ag
    obtain ⟨oe3, vs3, he3, hz3, hd3⟩ := fl3.there
    have nfr : a ∉ frs (X.env :: X.outer) := fun hm => by
      obtain ⟨_, o', e', hnf⟩ := fl3.2.2.1.mem hm
      rw [he3] at e'
      cases e'
      exact hnf _ hd3
    have ng : sI.heap.get? a = none := by
      cases q : sI.heap.get? a with
      | none => rfl
      | some u =>
        have z := nb a u q (by rw [stk]; exact nfr)
        rw [fl3.2.1] at z
        cases z
    have LT : PySem.W.Looks (model X.prog X.w) h3 (typeOf (.ref a)) cls := fun A Q E s k q => by
      refine wpAny_typeOf_ref (k _ _ he3) ?_
      rw [hz3.1]
      exact q
    have test : ∀ {x : Str} {np : Pos} {c : Value} {Q : Value → Shared → Prop} {E : Value → Shared → Prop}, Names X x c → Q c { s' with heap := h3 } → wpAny (model X.prog X.w) (X.A.mark (some (.ref a))) (eval (.Name x np) X.env) Q E { s' with heap := h3 } :=
      fun {x np c Q E} ⟨hg, kdb, hm⟩ q => by
        rcases hm with hm | ⟨hm, hv, hnn⟩
        · exact ld_glob (X := X.suite a (X.pn ++ pins)) (inSuite J3 a) hg hm q kdb
        · exact ld_blt (X := X.suite a (X.pn ++ pins)) (inSuite J3 a) hg hm hv q hnn kdb
    -- a clause takes it: it is tracked
    have took : ∀ {C : Addr} {Q : Unit → Shared → Prop} {E : Value → Shared → Prop}, cls = .ref C → (∀ h4, Inv X pins σ1 (upd H1 a (ExH C d a)) { s' with heap := h4 } → Ok X.K om0 H0 (ups om1 a (.exc C fs)) (upd H1 a (ExH C d a)) σ1 ro1 → Q () { s' with heap := h4 }) →
        wpAny (model X.prog X.w) (X.A.mark (some (.ref a))) (setFlight (.ref a) none) Q E { s' with heap := h3 } := fun {C Q E} ec k => by
      refine HandSPX.lands_againZ fl3 fun h4 fl4 up4 => ?_
      obtain ⟨oe4, vs4, he4, hz4, hd4⟩ := fl4.there
      subst ec
      refine k h4 (landX (s' := { s' with heap := h4 }) J nb fl4.1 ((up.trans up3).trans up4) os ag na ng (exH_ok he4 hz4 hd4)) ?_
      exact o1.to (o1.store.mk na ⟨d, upd_same, x1.mono (Stable.mk na)⟩) (Stable.mk na)
    have go : ∀ l : List ExceptHandler, hEx X F l cls fs ro1 om1 → wpAny (model X.prog X.w) X.A (handleBy (.ref a) X.env l) (SP X pins (ends X.K om0 H0 F)) X.xe { s' with heap := h3 } := fun l => by
      induction l with
      | nil =>
        intro w
        refine wpAny_handleBy_nil ?_
        obtain ⟨_, _, _, oe, vs, T, oT, ts', he, hz, hd, h1, hr⟩ := id fl3
        unfold PySem.passOn
        refine wpAny_bind (wpAny_field he hd h1 ?_)
        rw [if_neg (fun z => by simp at z)]
        have fin : wpAny (model X.prog X.w) X.A (setFlight (.ref a) X.env.frame) (fun _ s4 => wpAny (model X.prog X.w) X.A (throw (.ref a) : Sem Flow) (SP X pins (ends X.K om0 H0 F)) X.xe s4) X.xe { s' with heap := h3 } := by
          rw [frm]
          refine HandSPX.setFlight_upZ fl3 fun h4 hh4 up4 => wpAny_throw (t _ _ ?_)
          exact ⟨a, B, sI, pins, σ1, H1, cls, d, rfl, J, nb, (up.trans up3).trans up4, .inr (.inr (by rw [stk]; exact hh4)), na, os, ag, fs, ro1, om1, w, o1, x1⟩
        first
          | exact wpAny_bind (wpAny_pure (wpAny_bind fin))
          | exact wpAny_bind fin
      | cons h l ih =>
        intro w
        rcases h with ⟨_ | ty, nm, bd, p'⟩
        · exact False.elim w
        cases ty
        all_goals first | exact False.elim w | rename_i x np
        rcases bd with _ | ⟨b, bs⟩
        · cases nm <;> exact False.elim w
        rcases nm with _ | n
        · obtain ⟨cv, k, hc, hk, yes, no⟩ := w
          refine wpAny_handleBy_cons (codeAny_handlers_test ?_) (by intro z; cases z)
          refine test hc ((PySem.W.exm_one (M := model X.prog X.w) J3.kIn LT hk).here ?_)
          cases k with
          | false => exact ih (no rfl)
          | true =>
            obtain ⟨C, ec, hw⟩ := yes rfl
            refine codeAny_handlers_suite (took ec fun h4 J4 o4 => ?_)
            refine wpAny_mono (hw a (X.pn ++ pins) (o1.store.fresh na) om0 H0 Tk.no σ1 _ o4 [] _ (inSuite J4 a)) (fun f s6 hsp => ?_) (fun _ _ z => False.elim z)
            cases f with
            | next => obtain ⟨σ6, H6, S6, q6⟩ := hsp; exact ⟨_, _, offSuite S6 ok, q6⟩
            | brk => obtain ⟨σ6, H6, S6, q6⟩ := hsp; exact ⟨_, _, offSuite S6 ok, q6⟩
            | cont => obtain ⟨σ6, H6, S6, q6⟩ := hsp; exact ⟨_, _, offSuite S6 ok, q6⟩
            | ret u => obtain ⟨v6, σ6, H6, S6, r6, q6⟩ := hsp; exact ⟨_, _, _, offSuite S6 ok, r6, q6⟩
        · obtain ⟨cv, k, i, hc, hi, hln, hk, yes, no⟩ := w
          refine wpAny_handleBy_cons (codeAny_handlers_test ?_) (by intro z; cases z)
          refine test hc ((PySem.W.exm_one (M := model X.prog X.w) J3.kIn LT hk).here ?_)
          cases k with
          | false => exact ih (no rfl)
          | true =>
            obtain ⟨C, ec, hw⟩ := yes rfl
            refine codeAny_handlers_suite_as (took ec fun h4 J4 o4 => ?_)
            refine store_ok (X := X.suite a (X.pn ++ pins)) (v := .ref a) (inSuite J4 a) nd hi (.inl hln) rfl (fun s5 S5 => ?_) (.inr hln)
            have o5 : Ok X.K om0 H0 (ups om1 a (.exc C fs)) (upd H1 a (ExH C d a)) (σ1.set i (some (.ref a))) (ro1.set i (some (.obj a))) := o4.set i rfl
            refine wpAny_mono (hw a (X.pn ++ pins) (o1.store.fresh na) om0 H0 Tk.no _ _ o5 [] _ S5) (fun f s6 hsp => ?_) (fun _ _ z => False.elim z)
            have leave : ∀ {σ6 : L2.St} {H6 : Hp} {Q : Shared → Prop}, Inv (X.suite a (X.pn ++ pins)) [] σ6 H6 s6 → (∀ s7, Inv X pins (σ6.set i none) H6 s7 → Q s7) →
                wpAny (model X.prog X.w) X.A (do bindName X.env n .none; unbindBehindTheSuite X.env n p') (fun _ s7 => Q s7) X.xe s6 := fun S6 k6 => gone_ok (offSuite S6 ok) nd hi hln k6
            cases f with
            | next =>
              obtain ⟨σ6, H6, S6, ro6, om6, q6, o6⟩ := hsp
              exact leave S6 fun s7 J7 => ⟨_, _, J7, _, om6, q6, o6.unset i⟩
            | brk =>
              obtain ⟨σ6, H6, S6, ro6, om6, q6, o6⟩ := hsp
              exact leave S6 fun s7 J7 => ⟨_, _, J7, _, om6, q6, o6.unset i⟩
            | cont =>
              obtain ⟨σ6, H6, S6, ro6, om6, q6, o6⟩ := hsp
              exact leave S6 fun s7 J7 => ⟨_, _, J7, _, om6, q6, o6.unset i⟩
            | ret u =>
              obtain ⟨v6, σ6, H6, S6, r6, q6⟩ := hsp
              exact leave S6 fun s7 J7 => ⟨_, _, _, J7, r6, q6⟩
    exact go _ w
  refine wpAny_mono (hb (X.pn ++ pins) xe' PassesOwn.looking om0 H0 tk σ H o [] s (I.toTry _)) (fun f s1 hsp => ?_) (fun e s1 he => he)
  cases f with
  | next => obtain ⟨σ1, H1, J1, q⟩ := hsp; exact wpAny_execs_nil ⟨σ1, H1, J1.ofTry ok, q⟩
  | brk => obtain ⟨σ1, H1, J1, q⟩ := hsp; exact ⟨σ1, H1, J1.ofTry ok, q⟩
  | cont => obtain ⟨σ1, H1, J1, q⟩ := hsp; exact ⟨σ1, H1, J1.ofTry ok, q⟩
  | ret u => obtain ⟨v, σ1, H1, J1, r, q⟩ := hsp; exact ⟨v, σ1, H1, J1.ofTry ok, r, q⟩
end
end Mo

set_option Elab.async false
set_option linter.all false
set_option maxRecDepth 100000
set_option maxHeartbeats 4000000
set_option autoImplicit false
/-! The own exception classes: what the written part says of them; raise; a field, isinstance of what was caught. -/
namespace Mo
open PySem PySem.Spec PyProof.Rows L2

/-! ### raise X('m') -/
/-- x names the class at C, an own exception class without __init__ -/
structure Xc0 (K : PySem.W.Frag) (mg : Str → Option Value) (x : Str) (C : Addr) : Prop where
  g : mg x = some (.ref C)
  ex : PySem.W.excIn K C He.veBase "ValueError.__new__" = true
  kp : PySem.W.keepIn K (.ref C) = true
  sub : PySem.W.subIn K (.ref C) (.type "BaseException") = some true
  ty : PySem.W.typeIn K (.ref C) = some (.type "type")
section
variable {X : Cx} {F : De} {ro : Ro} {om : Om} {e : Expr} {pos : Pos} {d : D} {x f : Str} {C : Addr} {rest : List Stmt}
theorem s_raise {m : Str} {j : Nat} {p p2 p3 : Pos} (c : Xc0 X.K X.mg x C) (q : F.ex (.ref C) [] ro om) (hc : X.calm = true) (hg : Gl X x) (hdb : (x == ("__debug__" : Str)) = false := by decide) :
    ws X F ro om (.Raise (some (.Call (.Name x p) [.Constant (.str m) j p2] [] p3)) none pos :: rest) := ws_cons <| .mk fun om0 H0 t σ H o =>
  pS_of (ps_raise hc t (pmk_own PySem.F.excBase_ValueError c.ex c.g c.kp (raises_own c.sub c.ty) hg hdb)) (show Wof X.K om0 H0 F.ex (.ref C) none σ H from ⟨[], ro, om, q, o, rfl⟩)

/-! ### raise X(e) -/
/-- the own __init__ keeps its one argument as the field f -/
def spX (K : PySem.W.Frag) (C : Addr) (f : Str) : Sp := fun vs H Q _ => OexC K C ∧ PySem.W.findIn K (.ref C) f = some none ∧ ∃ (a : Addr) (y : V), vs = [.ref a, y] ∧ H a = some (exo a C none) ∧
  ∀ dx, H dx = none → dx ≠ a → Q .non (upd (upd H dx (exd dx [(f, y)])) a (exo a C (some dx)))
theorem init_ok {P : Program} {w : World} {K : PySem.W.Frag} {mg : Str → Option Value} {base : Heap} {dd : He.DefD} {fa : Addr} {fd : FuncData} {sn xn : Str} {p1 p2 p3 p4 : Pos} (Fu : Df K dd fa fd) (S : FnScope [sn, xn] [sn, xn] dd.scope)
    (hv : (visB dd.scope sn && visB dd.scope xn) = true) (hb : dd.body = [.Assign [.Attribute (.Name sn p1) f p2] (.Name xn p3) p4])
    (hs : ∀ env line, swapsWith (.Name xn p3) (some (.Attribute (.Name sn p1) f p2)) line env = pure false := by intro _ _; rfl) : FnOk P w K mg base (L2.CX P w) 1 fa fd [sn, xn] (spX K C f) := by
  obtain ⟨v1, v2⟩ := Bool.and_eq_true_iff.mp hv
  refine FunD.ok Fu S (fun vs H Q E ⟨_, _, a, y, e, _⟩ => by rw [e]; rfl) (fun cdv A outer s H vs Q E hr hsp => ?_)
  obtain ⟨T, hno, a, y, rfl, ha, hq⟩ := hsp
  have n1 : NameAt (cxOf (L2.CX P w) P w K mg base [sn, xn] dd.qual dd.scope fa cdv A outer s H E) 0 sn := nameAt_of rfl v1
  have n2 : NameAt (cxOf (L2.CX P w) P w K mg base [sn, xn] dd.qual dd.scope fa cdv A outer s H E) 1 xn := nameAt_of rfl v2
  rw [hb]
  refine ⟨_, pss_one (ps_ost (pe_var n1.at_ n1.vis n1.db n1.cd) (pe_var n2.at_ n2.vis n2.db n2.cd) (hs _ _)), ?_⟩
  exact ⟨y, rfl, .ref a, rfl, a, C, rfl, T, hno, .inl ⟨ha, fun dx h1 h2 => hq dx h1 h2⟩⟩
/-- x names the class at C, whose __init__ keeps the field f -/
structure XcF (P : Program) (w : World) (K : PySem.W.Frag) (mg : Str → Option Value) (base : Heap) (x f : Str) (C : Addr) : Prop where
  g : mg x = some (.ref C)
  ox : OexC K C
  no : PySem.W.findIn K (.ref C) f = some none
  ini : ∃ (fI : Addr) (fd : FuncData) (ps : List Str), PySem.W.findIn K (.ref C) "__init__" = some (some (.ref fI)) ∧ PySem.W.typeIn K (.ref fI) = some (.type "function") ∧ FnOk P w K mg base (L2.CX P w) 1 fI fd ps (spX K C f) ∧ Binds K fd ps []
theorem s_raiseF {p p3 : Pos} (c : XcF X.prog X.w X.K X.mg X.base x f C) (h : wv X ro om e d) (q : F.ex (.ref C) [(f, d)] ro om) (hc : X.calm = true) (hr : Room 2 X.A) (hg : Gl X x) (hdb : (x == ("__debug__" : Str)) = false := by decide)
    (he : starEach (e :: []) X.env = (false, eval e X.env) :: starEach [] X.env := by rfl) (hpl : (backTo p3 (starEach [] X.env)).any (·.1) = false := by rfl) :
    ws X F ro om (.Raise (some (.Call (.Name x p) [e] [] p3)) none pos :: rest) := ws_cons <| .mk fun om0 H0 t σ H o => by
  obtain ⟨fI, fd, ps, iC, tI, F1, hb⟩ := c.ini
  refine pS_of (ps_raise hc t (pmk_oex (ds := []) (dvs := []) c.ox iC tI F1 hr hb .nil (fun _ _ _ _ _ _ _ z => ?_) hg c.g pA_pa hdb he hpl)) ?_
  · obtain ⟨_, _, _, _, _, _, _, _, _, _, _, _, z⟩ := z
    exact z.elim
  have ha : wav X ro om [e] [d] := av_cons h av_nil he
  refine pA_mono (ha (fun _ _ _ _ => False) (fun ds om' => ds = [d] ∧ om' = om) ⟨rfl, rfl⟩ om0 H0 Tk.no σ H o) fun vs H1 ⟨ds, om1, ⟨e1, e2⟩, o1, r1⟩ => ?_
  subst e1 e2
  obtain ⟨y, _, rfl, ry, rfl⟩ := r1
  refine ⟨show 1 ≤ 1000 by decide, fun a hn => ⟨c.ox, c.no, a, y, rfl, upd_same, fun dx h1 h2 => ?_⟩⟩
  have hd1 : H1 dx = none := by rw [upd_ne h2] at h1; exact h1
  refine ⟨rfl, dx, [(f, y)], upd_same, by rw [upd_ne h2, upd_same], hd1, ?_⟩
  have eH : upd (del (upd (upd (upd H1 a (exo a C none)) dx (exd dx [(f, y)])) a (exo a C (some dx))) a) dx (.xd [(f, y)]) = upd H1 dx (.xd [(f, y)]) := by
    funext b
    by_cases k1 : b = dx
    · subst k1
      rw [upd_same, upd_same]
    · rw [upd_ne k1, upd_ne k1]
      by_cases k2 : b = a
      · subst k2
        rw [del_same, hn]
      · rw [del_ne k2, upd_ne k2, upd_ne k1, upd_ne k2]
  rw [eH]
  have st : Stable om1 H1 om1 (upd H1 dx (.xd [(f, y)])) := Stable.new hd1
  exact ⟨[(f, d)], ro, om1, q, o1.to (o1.store.new hd1) st, [(f, y)], upd_same, o1.store.fresh hd1, rfl, y, [], rfl, ry.mono st, rfl⟩
end

/-! ### what was caught -/
section
variable {X : Cx} {R : RX} {ro : Ro} {om : Om} {e : Expr} {pos : Pos} {d : D} {f : Str} {p C : Addr} {fs : List (Str × D)}
/-- its field -/
theorem v_xfld (h : wv X ro om e (.obj p)) (hp : om p = some (.exc C fs)) (T : XfC X.K C) (no : PySem.W.findIn X.K (.ref C) f = some none) (hl : fs.lookup f = some d) (hb : attributeBase e f X.env (eval e X.env) = eval e X.env := by rfl) : wv X ro om (.Attribute e f pos) d := .mk fun R Q q => .mk fun om0 H0 t σ H o =>
  fun pins s I => attr_of hb (thn (h R (fun d' om' => d' = .obj p ∧ om' = om) ⟨rfl, rfl⟩ om0 H0 t σ H o pins s I) fun u s1 ⟨v, H1, I1, ru, d', om1, ⟨e1, e2⟩, o1, r1⟩ => by
    subst e1 e2
    cases r1
    obtain rfl : u = Value.ref p := ru
    obtain ⟨dd, h1, x1⟩ := o1.store _ _ hp
    obtain ⟨⟨oe, vs, ho, hz, hd⟩, _, _⟩ := (show ObjOk X.prog X.w H1 s1.heap p (ExH C dd p) from I1.hok p _ h1)
    cases dd with
    | none =>
      obtain rfl : fs = [] := x1
      cases hl
    | some dd =>
      obtain ⟨fs', h2, _, h3, h4⟩ := x1
      obtain ⟨y, h5, h6⟩ := lk_rep h3 h4 hl
      obtain ⟨mA, hns, hr⟩ := (show ObjOk X.prog X.w H1 s1.heap dd (.xd fs') from I1.hok dd _ h2)
      obtain ⟨od, hod, hlk⟩ := lookIn_ns hns
      obtain ⟨u, hu, ry⟩ := RelO.some_of (v := y) (o := mA f) (by rw [← h5]; exact hr f)
      have J : PySem.W.InstAt s1.heap p oe C (some od) := ⟨ho, hz.1, by unfold PySem.W.notCls; rw [hd] <;> rfl, by rw [hz.2]; exact hod⟩
      exact HandSPX.exc_get I1.kIn J T.ga T.gg T.exC (PySem.W.findObj_own T.hdC no rfl (by rw [hlk, hu])) (handed_of ry) ⟨y, H1, I1.tok _, ry, d, _, q, o1, h6⟩)
/-- what isinstance asks of the class -/
structure Xis (K : PySem.W.Frag) (C : Addr) : Prop where
  cl : (PySem.W.clsIn K C).isSome = true
  ga : PySem.W.findIn K (.ref C) "__getattribute__" = some (some (.builtin "BaseException.__getattribute__"))
  gt : PySem.W.findIn K (.ref C) "__getattr__" = some none
  sub : PySem.W.subIn K (.ref C) (.type "BaseException") = some true
  ha : PySem.W.findIn K (.ref C) "__class__" = some (some (.builtin "object.__class__"))
  hn : PySem.W.specialIn K (.builtin "object.__class__") "__get__" = some (some (.builtin "getset_descriptor.__get__"))
  ht : PySem.W.takesIn K (.builtin "object.__class__") = some true
  hm : PySem.W.mroIn K C (.type "object") = some true
/-- isinstance(e, c), e a caught exception -/
def rIsX (K : PySem.W.Frag) : List V → Hp → VK → Prop := fun xs H Q => ∃ (a C : Addr) (d : Option Addr) (c : V) (u : Value) (b : Bool), xs = [.ref a, c] ∧ H a = some (ExH C d a) ∧ (∀ dd, d = some dd → ∃ fs, H dd = some (.xd fs)) ∧ ClsV c u ∧ Xis K C ∧ PySem.W.kitOne K (.ref C) u = some b ∧ Q (.bl b) H
def rIsXT (K : PySem.W.Frag) : List V → Hp → VK → Prop := fun xs H Q => ∃ (a C tp : Addr) (d : Option Addr) (cs : List V) (us : List Value) (b : Bool), xs = [.ref a, .ref tp] ∧ H a = some (ExH C d a) ∧ (∀ dd, d = some dd → ∃ fs, H dd = some (.xd fs)) ∧ H tp = some (.tup cs) ∧ Paired ClsV cs us ∧
  Xis K C ∧ PySem.W.kitAny K (.ref C) us = some b ∧ Q (.bl b) H
theorem inst_x {pins : List (Addr × Obj)} {σ : L2.St} {H : Hp} {s : Shared} {a : Addr} {dd : Option Addr} (I : Inv X pins σ H s) (h : H a = some (ExH C dd a)) (hd : ∀ d, dd = some d → ∃ fs, H d = some (.xd fs)) : ∃ oe od, PySem.W.InstAt s.heap a oe C od := by
  obtain ⟨⟨oe, vs, ho, hz, hv⟩, _, _⟩ := (show ObjOk X.prog X.w H s.heap a (ExH C dd a) from I.hok a _ h)
  have nc : PySem.W.notCls oe = true := by
    unfold PySem.W.notCls
    rw [hv] <;> rfl
  cases dd with
  | none => exact ⟨oe, none, ho, hz.1, nc, by rw [hz.2]; trivial⟩
  | some d =>
    obtain ⟨fs, hf⟩ := hd d rfl
    obtain ⟨mA, hns, hr⟩ := (show ObjOk X.prog X.w H s.heap d (.xd fs) from I.hok d _ hf)
    obtain ⟨od, hod, _⟩ := lookIn_ns hns
    exact ⟨oe, some od, ho, hz.1, nc, by rw [hz.2]; exact hod⟩
theorem call_isX : CallR X (.builtin "isinstance") (rIsX X.K) := by
  intro pins s σ H xs us Q I r h
  obtain ⟨a, C, dd, c, u, b, rfl, h1, h2, hc, T, hk, q⟩ := h
  obtain ⟨u1, u2, rfl, r1, r2⟩ := vals2 r
  have e2 := hc.eq r2
  subst e2
  obtain rfl : u1 = Value.ref a := r1
  obtain ⟨oe, od, J⟩ := inst_x I h1 h2
  exact PySem.W.kia_one (PySem.W.kitx_exc T.cl T.ga T.gt T.sub T.ha T.hn T.ht T.hm) I.kIn J hk (fun z => nomatch z) fun tk => ⟨.bl b, H, I.tok tk, rfl, q⟩
theorem call_isXT : CallR X (.builtin "isinstance") (rIsXT X.K) := by
  intro pins s σ H xs us Q I r h
  obtain ⟨a, C, tp, dd, cs, vs, b, rfl, h1, h2, hT, hc, T, hk, q⟩ := h
  obtain ⟨u1, u2, rfl, r1, r2⟩ := vals2 r
  obtain rfl : u1 = Value.ref a := r1
  obtain rfl : u2 = Value.ref tp := r2
  obtain ⟨oe, od, J⟩ := inst_x I h1 h2
  obtain ⟨_, its, rv, o, g1, g2, n, g3⟩ := (show ObjOk X.prog X.w H s.heap tp (.tup cs) from I.hok tp _ hT)
  have e3 := ClsV.all hc rv
  subst e3
  obtain ⟨oc, od2, dt, sl⟩ := o
  dsimp only at g2 g3
  subst g2
  subst g3
  exact PySem.W.kia_tup (PySem.W.kitx_exc T.cl T.ga T.gt T.sub T.ha T.hn T.ht T.hm) I.kIn J g1 hk (fun z => nomatch z) fun tk => ⟨.bl b, H, I.tok tk, rfl, q⟩
theorem exc_dd {K : PySem.W.Frag} {H : Hp} {dd : Option Addr} (x : XdOk K om H dd fs) : ∀ d, dd = some d → ∃ fs, H d = some (.xd fs) := fun d e => by
  subst e
  obtain ⟨fs', h, _⟩ := x
  exact ⟨fs', h⟩
theorem v_isX {cn : Str} {p1 p2 : Pos} {u : Value} {k : Bool} (h : wv X ro om e (.obj p)) (hp : om p = some (.exc C fs)) (T : Xis X.K C) (kl : Kl X cn u) (hk : PySem.W.kitOne X.K (.ref C) u = some k) (B : Bi X "isinstance" (.builtin "isinstance")) (hg2 : Gl X cn) (hg : Gl X "isinstance")
    (he : starEach (e :: [.Name cn p2]) X.env = (false, eval e X.env) :: starEach [.Name cn p2] X.env := by rfl) (he2 : starEach [.Name cn p2] X.env = (false, eval (.Name cn p2) X.env) :: starEach [] X.env := by rfl)
    (hpl : (backTo pos (starEach [.Name cn p2] X.env)).any (·.1) = false := by rfl) : wv X ro om (.Call (.Name "isinstance" p1) [e, .Name cn p2] [] pos) (.bl k) := .mk fun R Q q => .mk fun om0 H0 t' σ H o => by
  obtain ⟨v, cv, pe⟩ := kl.pe (p := p2) hg2
  cases B with
  | fn id hm hv hn hd =>
    refine pE_of (pe_callB call_isX hg hm hv (pa_cons pE_pe (pa_cons pe pa_nil he2) he) hn hd he hpl) ?_
    refine pE_mono (h R (fun d om' => d = .obj p ∧ om' = om) ⟨rfl, rfl⟩ om0 H0 t' σ H o) fun w H1 ⟨d, om1, ⟨e1, e2⟩, o1, r1⟩ => ?_
    subst e1 e2
    cases r1
    obtain ⟨dd, h1, x1⟩ := o1.store _ _ hp
    exact ⟨p, C, dd, v, u, k, rfl, h1, exc_dd x1, cv, T, hk, _, _, q, o1, rfl⟩
end

/-! ### the facts, as tests of the written part -/
/-- an own class over ValueError, its instances with a dict -/
theorem oexT_ok {K : PySem.W.Frag} {C : Addr} (h : oexT K C = true) : ∃ nm q N bs bm sn sub ab col dd k0 k1 k2 k3 k5, K.lookup C = some (excClassObj nm q C N bs bm true sn sub ab col dd k0 k1 k2 k3 k5 "ValueError.__new__") ∧ PySem.HandSPX.refsVE bm = true := by
  unfold oexT at h
  split at h
  · rename_i t dd c l ho
    split at h
    · rename_i D m k0 k1 k2 k3 b k5 hm hs
      simp only [Bool.and_eq_true, decide_eq_true_eq, Bool.not_eq_true'] at h
      obtain ⟨⟨⟨⟨⟨rfl, rfl⟩, rfl⟩, hd⟩, hl⟩, hv⟩ := h
      obtain ⟨nm, bs, mro, ns, qn, hdi, sn, sub, ab, col, dl⟩ := c
      dsimp only at hm hd hl
      subst hm hd hl
      obtain ⟨l⟩ := l
      dsimp only at hs
      subst hs
      exact ⟨nm, qn, ns, bs, m, sn, sub, ab, col, dd, k0, k1, k2, k3, k5, ho, hv⟩
    · cases h
  · cases h
section
variable {K : PySem.W.Frag} {h : Heap} {mg : Str → Option Value} {x y f : Str} {b : Bool}
theorem fX0_ok (X : K.In h) (G : h.Ns mainGlobals mg) (c : fX0 x K = true) : Xc0 K mg x (He.ga K x) := by
  obtain ⟨c1, c2⟩ := Bool.and_eq_true_iff.mp c
  obtain ⟨h1, h2, h3, h4⟩ := He.exc_ok c2
  exact ⟨fGlo_ok X G c1, h1, h2, h3, h4⟩
theorem fXF_ok {P : Program} {w : World} {base : Heap} {dd : He.DefD} {fd : FuncData} {sn xn : Str} {p1 p2 p3 p4 : Pos} (X : K.In h) (G : h.Ns mainGlobals mg) (c : fXF x f K = true) (Fu : Df K dd (mI K x) fd) (S : FnScope [sn, xn] [sn, xn] dd.scope)
    (hb : Binds K fd [sn, xn] []) (hv : (visB dd.scope sn && visB dd.scope xn) = true) (hbody : dd.body = [.Assign [.Attribute (.Name sn p1) f p2] (.Name xn p3) p4]) : XcF P w K mg base x f (He.ga K x) ∧ XfC K (He.ga K x) := by
  unfold fXF at c
  simp only [Bool.and_eq_true, decide_eq_true_eq] at c
  obtain ⟨⟨⟨⟨⟨⟨⟨⟨⟨c1, c2⟩, c3⟩, c4⟩, c5⟩, c6⟩, c7⟩, c8⟩, c9⟩, c10⟩ := c
  exact ⟨⟨fGlo_ok X G c1, ⟨oexT_ok c2, He.eqO_ok c3, c4, c5, c6⟩, He.eqO_ok c7, mI K x, fd, [sn, xn], He.eqO_ok c8, c9, init_ok Fu S hv hbody, hb⟩, xfB_ok c10⟩
theorem fXi_ok (c : fXi x K = true) : Xis K (He.ga K x) := by
  unfold fXi at c
  simp only [Bool.and_eq_true, decide_eq_true_eq] at c
  obtain ⟨⟨⟨⟨⟨⟨⟨c1, c2⟩, c3⟩, c4⟩, c5⟩, c6⟩, c7⟩, c8⟩ := c
  exact ⟨c1, He.eqO_ok c2, He.eqO_ok c3, c4, He.eqO_ok c5, He.eqO_ok c6, c7, c8⟩
theorem fExm_ok (c : fExm x y b K = true) : PySem.W.exmOne K (.ref (He.ga K x)) (.ref (He.ga K y)) = some b := of_decide_eq_true c
theorem fKit_ok (c : fKit x y b K = true) : PySem.W.kitOne K (.ref (He.ga K x)) (.ref (He.ga K y)) = some b := of_decide_eq_true c
theorem fKitT_ok {t : String} (c : fKitT x t b K = true) : PySem.W.kitOne K (.ref (He.ga K x)) (.type t) = some b := of_decide_eq_true c
end
end Mo

set_option Elab.async false
set_option linter.all false
set_option maxRecDepth 100000
set_option maxHeartbeats 4000000
set_option autoImplicit false
/-! Objects let go; names unpacked from a list; try as a block. -/
namespace Mo
open PySem PySem.Spec PyProof.Rows L2
section
variable {X : Cx} {R : RX} {F : De} {ro : Ro} {om : Om} {e : Expr} {pos : Pos} {rest sts : List Stmt} {x : D}
/-- an object is spoken of no more -/
theorem ws_drop (a : Addr) (h : ws X F ro (dels om a) sts) : ws X F ro om sts := .mk fun om0 H0 t σ H o => h om0 H0 t σ H (o.to o.store.del Stable.del)
theorem dels_new {om : Om} {p q : Addr} {o u : DO} (h : om p = none) (ne : p ≠ q) : dels (ups (ups om p o) q u) p = ups om q u := by
  funext b
  by_cases e : b = p
  · subst e
    rw [dels_same, ups_ne ne, h]
  · rw [dels_ne e]
    by_cases k : b = q
    · subst k
      rw [ups_same, ups_same]
    · rw [ups_ne k, ups_ne k, ups_ne e]
/-- return e, an object being spoken of no more -/
theorem ret_d (a : Addr) {d : D} (h : wv X ro om e d) (q : F.rt d (dels om a)) : ws X F ro om (.Return (some e) pos :: rest) := ws_cons <| .mk fun om0 H0 t σ H o => by
  refine pS_of (ps_ret pE_pe) (v_run h t o fun v H1 o1 r => ?_)
  exact ⟨d, _, q, o1.store.del, o1.stab.trans Stable.del, r.mono Stable.del⟩
/-- a slot is let go -/
theorem ws_weak {ro' : Ro} (hl : ro'.length = ro.length) (k : ∀ (i : Nat) (d : D), ro'[i]? = some (some d) → ro[i]? = some (some d)) (h : ws X F ro' om sts) : ws X F ro om sts := .mk fun om0 H0 t σ H o => h om0 H0 t σ H (o.weak hl k)
theorem s_unL {es' : List Expr} {k : Nat} {tpos : Pos} {t : TGs} {n : Nat} {G : List D → Ro → Ro} (h : we X F.ex ro om e fun d om1 => ∃ ds, Lr om1 d ds ∧ ds.length = n ∧ F.nx (G ds ro) om1) (hc : X.calm = true) (hg : PGs X es' t)
    (hG : ∀ (om0 : Om) (H0 : Hp) (om1 : Om) (H1 : Hp) (σ : L2.St) (ds : List D) (xs : List V) (Q : L2.St → Hp → Prop), ds.length = n → Ok X.K om0 H0 om1 H1 σ ro → RepL X.K om1 H1 ds xs → (∀ σ', Ok X.K om0 H0 om1 H1 σ' (G ds ro) → Q σ' H1) → t xs σ H1 Q)
    (hn : (assignEach es' X.env).length = n := by rfl) (hst : (assignEach es' X.env).findIdx? (·.1) = none := by rfl) (hs : swapsWithSole [.Tuple es' k tpos] e pos.line X.env = pure false := by rfl) (hw : swappedStores [.Tuple es' k tpos] e X.env = pure none := by rfl)
    (h1 : (assignEach [.Tuple es' k tpos] X.env).map (·.2) = [assign (.Tuple es' k tpos) X.env] := by rfl) : w1 X F ro om (.Assign [.Tuple es' k tpos] e pos) := .mk fun om0 H0 tk σ H o => by
  refine pS_of (ps_asg pE_pe (pg_lst hc hg hn hst) hs hw h1) ?_
  refine pE_mono (h om0 H0 tk σ H o) fun v H1 ⟨d, om1, ⟨ds, l, hl, q⟩, o1, r⟩ => ?_
  obtain ⟨p, xs, rfl, h2, r2⟩ := l.rep o1.store r
  exact ⟨p, xs, rfl, SqL.of h2, by rw [← r2.length]; exact hl, hG om0 H0 om1 H1 σ ds xs _ hl o1 r2 fun σ' o' => ⟨_, _, q, o'⟩⟩
/-- a, b = e, from a list or a tuple -/
theorem Lo.unL2 {i j : Nat} {xn yn : Str} {p q tp : Pos} {k : Nat} (l : Lo X i xn) (m : Lo X j yn) (nd : X.N.Nodup) (hc : X.calm = true) (h : we X F.ex ro om e fun d om1 => ∃ d1 d2, Lr om1 d [d1, d2] ∧ ws X F ((ro.set i (some d1)).set j (some d2)) om1 rest)
    (hn : (assignEach [.Name xn p, .Name yn q] X.env).length = 2 := by rfl) (hst : (assignEach [.Name xn p, .Name yn q] X.env).findIdx? (·.1) = none := by rfl) (hs : swapsWithSole [.Tuple [.Name xn p, .Name yn q] k tp] e pos.line X.env = pure false := by rfl)
    (hw : swappedStores [.Tuple [.Name xn p, .Name yn q] k tp] e X.env = pure none := by rfl) (h1 : (assignEach [.Tuple [.Name xn p, .Name yn q] k tp] X.env).map (·.2) = [assign (.Tuple [.Name xn p, .Name yn q] k tp) X.env] := by rfl) :
    ws X F ro om (.Assign [.Tuple [.Name xn p, .Name yn q] k tp] e pos :: rest) := ws_cons (s_unL (G := G2 i j) (we_mono h fun d om' ⟨d1, d2, a, b⟩ => ⟨[d1, d2], a, rfl, b⟩) hc (pgs_cons (l.pg nd) (pgs_cons (m.pg nd) pgs_nil)) (fun _ _ _ _ _ _ _ _ hl o r q => g2_ok i j hl o r q) hn hst hs hw h1)
theorem Lo.un2 {i j : Nat} {xn yn : Str} {p q tp : Pos} {k : Nat} (l : Lo X i xn) (m : Lo X j yn) (nd : X.N.Nodup) (hc : X.calm = true) (h : we X F.ex ro om e fun d om1 => ∃ d1 d2, d = .tup [d1, d2] ∧ ws X F ((ro.set i (some d1)).set j (some d2)) om1 rest)
    (hn : (assignEach [.Name xn p, .Name yn q] X.env).length = 2 := by rfl) (hst : (assignEach [.Name xn p, .Name yn q] X.env).findIdx? (·.1) = none := by rfl) (hs : swapsWithSole [.Tuple [.Name xn p, .Name yn q] k tp] e pos.line X.env = pure false := by rfl)
    (hw : swappedStores [.Tuple [.Name xn p, .Name yn q] k tp] e X.env = pure none := by rfl) (h1 : (assignEach [.Tuple [.Name xn p, .Name yn q] k tp] X.env).map (·.2) = [assign (.Tuple [.Name xn p, .Name yn q] k tp) X.env] := by rfl) :
    ws X F ro om (.Assign [.Tuple [.Name xn p, .Name yn q] k tp] e pos :: rest) := ws_cons (s_unT (G := G2 i j) (we_mono h fun d om' ⟨d1, d2, a, b⟩ => ⟨[d1, d2], a, rfl, b⟩) hc (pgs_cons (l.pg nd) (pgs_cons (m.pg nd) pgs_nil)) (fun _ _ _ _ _ _ _ _ hl o r q => g2_ok i j hl o r q) hn hst hs hw h1)
/-- try: .. as a block's head -/
theorem st_try {body : List Stmt} {h₀ : ExceptHandler} {hds : List ExceptHandler} (stk : X.stack = X.env :: X.outer) (frm : X.env.frame = some X.env.locals) (nd : X.N.Nodup)
    (hb : ∀ (pn : List (Addr × Obj)) (xe : Value → Shared → Prop), PassesOwn (model X.prog X.w) X.A X.env xe → ws (X.tr pn xe) { F with nx := fun ro' om' => ws X F ro' om' rest, ex := hEx X { F with nx := fun ro' om' => ws X F ro' om' rest } (h₀ :: hds) } ro om body) : ws X F ro om (.Try body (h₀ :: hds) [] [] pos :: rest) := ws_cons (w_try stk frm nd hb)
/-- a call whose exception is told -/
theorem st_callX {xn : Str} {k n : Nat} {G : Fs} {p cp : Pos} {a : Expr} {es : List Expr} {ds : List D} (Dk : DefOk X.prog X.w X.K X.mg X.base xn k n G) (hr : Room k X.A) (h : wav X ro om (a :: es) ds) (hl : ds.length = n) (g : G ds om (fun _ om' => ws X F ro om' rest) (fun c fs om' => F.ex c fs ro om'))
    (hg : Gl X xn) (hdb : (xn == ("__debug__" : Str)) = false := by decide) (he : starEach (a :: es) X.env = (false, eval a X.env) :: starEach es X.env := by rfl) (hpl : (backTo cp (starEach es X.env)).any (·.1) = false := by rfl)
    (hs : swapsWith (.Call (.Name xn p) (a :: es) [] cp) none pos.line X.env = pure false := by rfl) : ws X F ro om (.Expr (.Call (.Name xn p) (a :: es) [] cp) pos :: rest) := st_expr (e_call Dk hr (h _ _ ⟨hl, g⟩) hg hdb he hpl) hs
/-- name = f(..), whose exception is told -/
theorem Lo.callX {i : Nat} {yn xn : Str} {k n : Nat} {G : Fs} {p cp pos' : Pos} {a : Expr} {es : List Expr} {ds : List D} (l : Lo X i yn) (nd : X.N.Nodup) (Dk : DefOk X.prog X.w X.K X.mg X.base xn k n G) (hr : Room k X.A) (h : wav X ro om (a :: es) ds) (hl : ds.length = n)
    (g : G ds om (fun d om' => ws X F (ro.set i (some d)) om' rest) (fun c fs om' => F.ex c fs ro om'))
    (hg : Gl X xn) (hdb : (xn == ("__debug__" : Str)) = false := by decide) (he : starEach (a :: es) X.env = (false, eval a X.env) :: starEach es X.env := by rfl) (hpl : (backTo cp (starEach es X.env)).any (·.1) = false := by rfl)
    (hs : swapsWith (.Call (.Name xn p) (a :: es) [] cp) (some (.Name yn pos')) pos.line X.env = pure false := by rfl) : ws X F ro om (.Assign [.Name yn pos'] (.Call (.Name xn p) (a :: es) [] cp) pos :: rest) := ws_cons (l.asg nd (e_call Dk hr (h _ _ ⟨hl, g⟩) hg hdb he hpl) hs)
end
end Mo

set_option Elab.async false
set_option linter.all false
set_option maxRecDepth 100000
set_option maxHeartbeats 4000000
set_option autoImplicit false
/-! isinstance over a tuple of classes; appends under a test; returns that let an object go. -/
namespace Mo
open PySem PySem.Spec PyProof.Rows L2
section
variable {X : Cx} {R : RX} {F : De} {ro : Ro} {om : Om} {e c : Expr} {pos : Pos} {rest sts : List Stmt} {x d : D}
/-- classes by their names -/
inductive Kls (X : Cx) : List Expr → List Value → Prop
  | nil : Kls X [] []
  | cons {n : Str} {p : Pos} {u : Value} {es : List Expr} {us : List Value} (k : Kl X n u) (g : Gl X n) (r : Kls X es us) : Kls X (.Name n p :: es) (u :: us)
theorem Kls.pa {es : List Expr} {us : List Value} (k : Kls X es us) : ∃ (cs : List V) (t : TA), cs.length = es.length ∧ Paired ClsV cs us ∧ PA X es t ∧ ∀ σ H Q, Q cs H → t σ H Q := by
  induction k with
  | nil => exact ⟨[], _, rfl, .nil, pa_nil, fun _ _ _ q => q⟩
  | cons k g r ih =>
    obtain ⟨cs, t, hl, h1, h2, h3⟩ := ih
    obtain ⟨v, cv, pe⟩ := k.pe g
    exact ⟨v :: cs, _, congrArg (· + 1) hl, .cons cv h1, pa_cons pe h2 rfl, fun σ H Q q => h3 σ H (fun vs H' => Q (v :: vs) H') q⟩
theorem v_isXT {p C : Addr} {fs : List (Str × D)} {es : List Expr} {p1 p2 : Pos} {j : Nat} {us : List Value} {k : Bool} (h : wv X ro om e (.obj p)) (hp : om p = some (.exc C fs)) (T : Xis X.K C) (kl : Kls X es us) (hk : PySem.W.kitAny X.K (.ref C) us = some k) (B : Bi X "isinstance" (.builtin "isinstance"))
    (hg : Gl X "isinstance") (hl : es.length ≤ 100) (he : starEach (e :: [.Tuple es j p2]) X.env = (false, eval e X.env) :: starEach [.Tuple es j p2] X.env := by rfl) (he2 : starEach [.Tuple es j p2] X.env = (false, eval (.Tuple es j p2) X.env) :: starEach [] X.env := by rfl)
    (hpl : (backTo pos (starEach [.Tuple es j p2] X.env)).any (·.1) = false := by rfl) : wv X ro om (.Call (.Name "isinstance" p1) [e, .Tuple es j p2] [] pos) (.bl k) := .mk fun R Q q => .mk fun om0 H0 t' σ H o => by
  obtain ⟨cs, t, hcl, hc, pa, run⟩ := kl.pa
  cases B with
  | fn id hm hv hn hd =>
    refine pE_of (pe_callB call_isXT hg hm hv (pa_cons pE_pe (pa_cons (pe_tup pa) pa_nil he2) he) hn hd he hpl) ?_
    refine pE_mono (h R (fun d om' => d = .obj p ∧ om' = om) ⟨rfl, rfl⟩ om0 H0 t' σ H o) fun w H1 ⟨d, om1, ⟨e1, e2⟩, o1, r1⟩ => ?_
    subst e1 e2
    cases r1
    refine run _ _ _ ⟨by rw [hcl, sizeLine_eq]; omega, fun tp hn => ?_⟩
    have st : Stable om1 H1 om1 (upd H1 tp (.tup cs)) := Stable.new hn
    have o2 := o1.to (o1.store.new hn (u := .tup cs)) st
    obtain ⟨dd, h1, x1⟩ := o2.store _ _ hp
    exact ⟨p, C, tp, dd, cs, us, k, rfl, h1, exc_dd x1, upd_same, hc, T, hk, _, _, q, o2, rfl⟩
theorem ups_id {om : Om} {p : Addr} {o : DO} (h : om p = some o) : ups om p o = om := by
  funext b
  by_cases e : b = p
  · subst e
    rw [ups_same, h]
  · rw [ups_ne e]
/-- if c: p.append(e) -/
theorem st_ifApp {o : Expr} {apos cpos p2 : Pos} {p : Addr} {ds : List D} {k : Bool} (h : wtv X ro om c k) (ho : wv X ro om o (.obj p)) (he : k = true → wv X ro om e d) (hp : om p = some (.lst ds)) (hz : ds.length < sizeLine) (nx : ws X F ro (ups om p (.lst (ds ++ if k = true then [d] else []))) rest)
    (hbase : attributeBase o "append" X.env (eval o X.env) = eval o X.env := by rfl)
    (hfew : ((backTo cpos (starEach [e] X.env)).all (fun x => !x.1) && (backToKw cpos (keywordEach [] X.env)).all (fun x => x.1.isSome) && decide ([e].length + ([] : List Keyword).length + (if ([] : List Keyword).isEmpty then 0 else 1) < 30)) = true := by rfl)
    (hline : (apos.endLine == cpos.line) = true := by rfl) (hs : starEach [e] X.env = (false, eval e X.env) :: starEach [] X.env := by rfl) (hplain : (backTo cpos (starEach [] X.env)).any (·.1) = false := by rfl)
    (hsw : swapsWith (.Call (.Attribute o "append" apos) [e] [] cpos) none p2.line X.env = pure false := by rfl) : ws X F ro om (.If c [.Expr (.Call (.Attribute o "append" apos) [e] [] cpos) p2] [] pos :: rest) := by
  refine st_if h (fun hk => ?_) (fun hk => ws_nil ?_)
  · refine st_append ho (he hk) hp hz (ws_nil ?_) hbase hfew hline hs hplain hsw
    rw [if_pos hk] at nx
    exact nx
  · subst hk
    rw [if_neg (by decide), List.append_nil, ups_id hp] at nx
    exact nx
/-- an exception may let an object go -/
theorem ws_exd (h : ws X { F with ex := fun c fs ro om => ∃ p, F.ex c fs ro (dels om p) } ro om sts) : ws X F ro om sts := .mk fun om0 H0 t σ H o =>
  h om0 H0 (Takes.imp t fun c d σ H ⟨fs, ro, om, ⟨p, r⟩, o, x⟩ => ⟨fs, ro, dels om p, r, o.to o.store.del Stable.del, x.mono Stable.del⟩) σ H o
/-- return e, an object being spoken of no more -/
theorem ret_ed (a : Addr) (h : we X F.ex ro om e fun d om' => F.rt d (dels om' a)) : ws X F ro om (.Return (some e) pos :: rest) := ws_cons <| .mk fun om0 H0 t σ H o => by
  refine pS_of (ps_ret pE_pe) (pE_mono (h om0 H0 t σ H o) fun v H1 ⟨d, om1, q, o1, r⟩ => ?_)
  exact ⟨d, _, q, o1.store.del, o1.stab.trans Stable.del, r.mono Stable.del⟩
theorem kind_of {n : Str} {sc : Scope} (h : X.env.scope = sc) (k : (sc.names.lookup n == some .local) = true) : X.env.kindOf n = some .local := by
  show X.env.scope.names.lookup n = _
  rw [h]
  exact beq_iff_eq.mp k
/-- except C as n: what the clause takes -/
theorem hx_as {x n : Str} {np p' : Pos} {b : Stmt} {bs : List Stmt} {r : List ExceptHandler} {C : Addr} {C' : Addr} {fs : List (Str × D)} (i : Nat) (hC : X.mg x = some (.ref C')) (g : Gl X x) (hi : X.N[i]? = some n) (hk : X.env.kindOf n = some .local) (em : PySem.W.exmOne X.K (.ref C) (.ref C') = some true)
    (h : ∀ a pn, om a = none → ws (X.suite a pn) (F.gone i) (ro.set i (some (.obj a))) (ups om a (.exc C fs)) (b :: bs)) (hd : (x == ("__debug__" : Str)) = false := by decide) : hEx X F (.ExceptHandler (some (.Name x np)) (some n) (b :: bs) p' :: r) (.ref C) fs ro om :=
  ⟨.ref C', true, i, ⟨g, hd, .inl hC⟩, hi, hk, em, fun _ => ⟨C, rfl, h⟩, fun z => by cases z⟩
theorem hx_on {x : Str} {np p' : Pos} {b : Stmt} {bs : List Stmt} {r : List ExceptHandler} {C : Addr} {C' : Addr} {fs : List (Str × D)} (hC : X.mg x = some (.ref C')) (g : Gl X x) (em : PySem.W.exmOne X.K (.ref C) (.ref C') = some true)
    (h : ∀ a pn, om a = none → ws (X.suite a pn) F.calm ro (ups om a (.exc C fs)) (b :: bs)) (hd : (x == ("__debug__" : Str)) = false := by decide) : hEx X F (.ExceptHandler (some (.Name x np)) none (b :: bs) p' :: r) (.ref C) fs ro om :=
  ⟨.ref C', true, ⟨g, hd, .inl hC⟩, em, fun _ => ⟨C, rfl, h⟩, fun z => by cases z⟩
theorem hx_no {x : Str} {np p' : Pos} {b : Stmt} {bs : List Stmt} {r : List ExceptHandler} {C : Addr} {C' : Addr} {fs : List (Str × D)} (hC : X.mg x = some (.ref C')) (g : Gl X x) (em : PySem.W.exmOne X.K (.ref C) (.ref C') = some false)
    (h : hEx X F r (.ref C) fs ro om) (hd : (x == ("__debug__" : Str)) = false := by decide) : hEx X F (.ExceptHandler (some (.Name x np)) none (b :: bs) p' :: r) (.ref C) fs ro om :=
  ⟨.ref C', false, ⟨g, hd, .inl hC⟩, em, (fun z => by cases z), fun _ => h⟩
theorem hx_noA {x n : Str} {np p' : Pos} {b : Stmt} {bs : List Stmt} {r : List ExceptHandler} {C : Addr} {C' : Addr} {fs : List (Str × D)} (i : Nat) (hC : X.mg x = some (.ref C')) (g : Gl X x) (hi : X.N[i]? = some n) (hk : X.env.kindOf n = some .local) (em : PySem.W.exmOne X.K (.ref C) (.ref C') = some false)
    (h : hEx X F r (.ref C) fs ro om) (hd : (x == ("__debug__" : Str)) = false := by decide) : hEx X F (.ExceptHandler (some (.Name x np)) (some n) (b :: bs) p' :: r) (.ref C) fs ro om :=
  ⟨.ref C', false, i, ⟨g, hd, .inl hC⟩, hi, hk, em, (fun z => by cases z), fun _ => h⟩
/-- what a name's class is, in an except clause -/
theorem names_of {n : Str} {C : Addr} (h : X.mg n = some (.ref C)) (g : Gl X n) (hd : (n == ("__debug__" : Str)) = false := by decide) : Names X n (.ref C) := ⟨g, hd, .inl h⟩
end
end Mo

set_option Elab.async false
set_option linter.all false
set_option maxRecDepth 100000
set_option maxHeartbeats 4000000
set_option autoImplicit false
/-! Data as PyData; texts drawn by the laws. -/
namespace Mo
open PySem PySem.Spec PyProof.Rows L2
/-! ### what data reads as -/
inductive PdL (om : Om) : List D → List PyData → Prop
  | nil : PdL om [] []
  | cons {d : D} {ds : List D} {p : PyData} {ps : List PyData} (h : Pd om d p) (t : PdL om ds ps) : PdL om (d :: ds) (p :: ps)
theorem PdL.length {om : Om} {ds : List D} {ps : List PyData} (h : PdL om ds ps) : ds.length = ps.length := by
  induction h with
  | nil => rfl
  | cons _ _ ih => exact congrArg (· + 1) ih
theorem PdL.at {om : Om} {ds : List D} {ps : List PyData} (h : PdL om ds ps) : ∀ (i : Nat) (d : D) (p : PyData), ds[i]? = some d → ps[i]? = some p → Pd om d p := by
  induction h with
  | nil => intro i d p e; simp at e
  | cons h t ih =>
    intro i d p e1 e2
    cases i with
    | zero => cases e1; cases e2; exact h
    | succ i => exact ih i d p (by simpa using e1) (by simpa using e2)
theorem PdL.map {om : Om} {α : Type} {f : α → D} {g : α → PyData} (h : ∀ x, Pd om (f x) (g x)) : ∀ l : List α, PdL om (l.map f) (l.map g)
  | [] => .nil
  | x :: l => .cons (h x) (PdL.map h l)
theorem PdL.mapM {om : Om} {α : Type} {f : α → D} {g : α → PyData} : ∀ l : List α, (∀ x ∈ l, Pd om (f x) (g x)) → PdL om (l.map f) (l.map g)
  | [], _ => .nil
  | x :: l, h => .cons (h x (List.mem_cons_self)) (PdL.mapM l fun y hy => h y (List.mem_cons_of_mem _ hy))
theorem PdL.app {om : Om} {ds es : List D} {ps qs : List PyData} (h : PdL om ds ps) (k : PdL om es qs) : PdL om (ds ++ es) (ps ++ qs) := by
  induction h with
  | nil => exact k
  | cons h t ih => exact .cons h ih
theorem Pd.l {om : Om} {ds : List D} {ps : List PyData} (h : PdL om ds ps) : Pd om (.lst ds) (.list ps) := .lst h.length h.at
theorem Pd.t {om : Om} {ds : List D} {ps : List PyData} (h : PdL om ds ps) : Pd om (.tup ds) (.tuple ps) := .tup h.length h.at
theorem Pd.o {om : Om} {a : Addr} {ds : List D} {ps : List PyData} (e : om a = some (.lst ds)) (h : PdL om ds ps) : Pd om (.obj a) (.list ps) := .obj e h.length h.at
theorem PdL.strs {om : Om} (l : List Str) : PdL om (l.map .str) (l.map .str) := PdL.map (fun x => Pd.str x) l
theorem PdL.ints {om : Om} (l : List Int) : PdL om (l.map .int) (l.map .int) := PdL.map (fun x => Pd.int x) l
/-- no dict, at most n deep -/
def pokn (n : Nat) (p : PyData) : Prop := p.plain = true ∧ p.depth ≤ n
theorem pok_of {p : PyData} (h : pokn 9 p) : pok p := ⟨h.1, Nat.le_trans h.2 (by decide)⟩
theorem pokn_none {n : Nat} : pokn n .none := ⟨rfl, Nat.zero_le _⟩
theorem pokn_bool {n : Nat} {b : Bool} : pokn n (.bool b) := ⟨rfl, Nat.zero_le _⟩
theorem pokn_int {n : Nat} {i : Int} : pokn n (.int i) := ⟨rfl, Nat.zero_le _⟩
theorem pokn_str {n : Nat} {s : Str} : pokn n (.str s) := ⟨rfl, Nat.zero_le _⟩
theorem pokn_all {n : Nat} : ∀ {ps : List PyData}, (∀ p ∈ ps, pokn n p) → PyData.plainAll ps = true ∧ PyData.depthAll ps ≤ n
  | [], _ => ⟨rfl, Nat.zero_le _⟩
  | p :: ps, h => by
    obtain ⟨h1, h2⟩ := h p List.mem_cons_self
    obtain ⟨h3, h4⟩ := pokn_all (ps := ps) fun q hq => h q (List.mem_cons_of_mem _ hq)
    refine ⟨by unfold PyData.plainAll; rw [h1, h3]; rfl, ?_⟩
    unfold PyData.depthAll
    exact Nat.max_le.mpr ⟨h2, h4⟩
theorem pokn_list {n : Nat} {ps : List PyData} (h : ∀ p ∈ ps, pokn n p) : pokn (n + 1) (.list ps) := by
  obtain ⟨h1, h2⟩ := pokn_all h
  exact ⟨h1, by unfold PyData.depth; omega⟩
theorem pokn_tuple {n : Nat} {ps : List PyData} (h : ∀ p ∈ ps, pokn n p) : pokn (n + 1) (.tuple ps) := by
  obtain ⟨h1, h2⟩ := pokn_all h
  exact ⟨h1, by unfold PyData.depth; omega⟩
theorem all_nil {n : Nat} : ∀ p ∈ ([] : List PyData), pokn n p := fun _ h => by cases h
theorem all_cons {n : Nat} {p : PyData} {ps : List PyData} (h : pokn n p) (k : ∀ q ∈ ps, pokn n q) : ∀ q ∈ p :: ps, pokn n q := fun q hq => by
  rcases List.mem_cons.mp hq with e | e
  · rw [e]; exact h
  · exact k q e
theorem all_map {n : Nat} {α : Type} {f : α → PyData} (h : ∀ x, pokn n (f x)) (l : List α) : ∀ p ∈ l.map f, pokn n p := fun p hp => by
  obtain ⟨x, _, rfl⟩ := List.mem_map.mp hp
  exact h x
theorem all_app {n : Nat} {ps qs : List PyData} (h : ∀ p ∈ ps, pokn n p) (k : ∀ p ∈ qs, pokn n p) : ∀ p ∈ ps ++ qs, pokn n p := fun p hp => (List.mem_append.mp hp).elim (h p) (k p)
/-! ### == of plain forms -/
theorem beqS {x y : Str} : (x == y) = decide (x = y) := by
  by_cases h : x = y
  · subst h; simp
  · rw [decide_eq_false h]; exact beq_eq_false_iff_ne.mpr h
theorem eqvAll_map {α : Type} [DecidableEq α] {f : α → PyData} (h : ∀ x y, PyData.eqv (f x) (f y) = decide (x = y)) : ∀ l m : List α, PyData.eqvAll (l.map f) (m.map f) = decide (l = m)
  | [], [] => by simp [PyData.eqvAll]
  | [], y :: m => by simp [PyData.eqvAll]
  | x :: l, [] => by simp [PyData.eqvAll]
  | x :: l, y :: m => by
    rw [List.map_cons, List.map_cons, PyData.eqvAll, h, eqvAll_map h l m]
    by_cases e : x = y
    · subst e
      by_cases e2 : l = m
      · subst e2; simp
      · rw [decide_eq_true rfl, decide_eq_false e2, decide_eq_false (show ¬ (x :: l = x :: m) from fun z => e2 (List.cons.inj z).2)]; rfl
    · rw [decide_eq_false e, decide_eq_false (show ¬ (x :: l = y :: m) from fun z => e (List.cons.inj z).1)]; rfl
theorem eqv_str {x y : Str} : PyData.eqv (.str x) (.str y) = decide (x = y) := by rw [PyData.eqv, beqS]
theorem eqv_int {x y : Int} : PyData.eqv (.int x) (.int y) = decide (x = y) := by rw [PyData.eqv, Bool.beq_eq_decide_eq]
theorem eqv_strs {l m : List Str} : PyData.eqv (.list (l.map .str)) (.list (m.map .str)) = decide (l = m) := by
  rw [PyData.eqv]
  exact eqvAll_map (fun x y => eqv_str) l m
theorem eqv_ints {l m : List Int} : PyData.eqv (.list (l.map .int)) (.list (m.map .int)) = decide (l = m) := by
  rw [PyData.eqv]
  exact eqvAll_map (fun x y => eqv_int) l m
theorem eqv_nn : PyData.eqv .none .none = true := by simp [PyData.eqv]
theorem eqv_self {p : PyData} (h : pok p) : PyData.eqv p p = true := SeqAt.eqv_refl_plain p h.1
/-! ### texts -/
abbrev chr1 (c : Nat) : Str := ⟨#[c]⟩
theorem len_app (x y : Str) : (x ++ y).length = x.length + y.length := by
  show (x.cps ++ y.cps).size = x.cps.size + y.cps.size
  exact Array.size_append
theorem tl_app (x y : Str) : TL.tl (x ++ y) = TL.tl x ++ TL.tl y := by
  show (x.cps ++ y.cps).toList = _
  exact Array.toList_append
theorem len_tl (x : Str) : x.length = (TL.tl x).length := by
  show x.cps.size = x.cps.toList.length
  rw [Array.length_toList]
/-- the signs of the drawn words -/
def sgS : Str := "abcdefghijklmnopqrstuvwxyzAZ09-#./"
def sg (i : Int) : Nat := sgS.cps.toList.getD i.toNat 0
theorem sg_len : sgS.cps.toList.length = 34 := by decide +kernel
theorem sg_at {i : Int} (h0 : 0 ≤ i) (h1 : i < 34) : atI sgS.cps.toList i = some (sg i) := by
  have hl := sg_len
  have e : i = (i.toNat : Int) := by omega
  have hi : i.toNat < sgS.cps.toList.length := by omega
  unfold sg
  rw [e, Int.toNat_natCast, List.getD_eq_getElem?_getD, List.getElem?_eq_getElem hi]
  exact atI_nat (List.getElem?_eq_getElem hi)
theorem sg_ok : sgS.cps.toList.all (fun c => decide (33 ≤ c ∧ c ≤ 126 ∧ c ≠ 37)) = true := by decide +kernel
theorem sg_in (i : Int) (h0 : 0 ≤ i) (h1 : i < 34) : 33 ≤ sg i ∧ sg i ≤ 126 ∧ sg i ≠ 37 := by
  have hl := sg_len
  have hi : i.toNat < sgS.cps.toList.length := by omega
  have := List.all_eq_true.mp sg_ok (sgS.cps.toList[i.toNat]) (List.getElem_mem hi)
  unfold sg
  rw [List.getD_eq_getElem?_getD, List.getElem?_eq_getElem hi]
  exact of_decide_eq_true this
theorem sg_slash (i : Int) (h0 : 0 ≤ i) (h1 : i < 33) : sg i ≠ 47 := by
  have : ∀ j : Fin 33, sgS.cps.toList.getD j.val 0 ≠ 47 := by decide +kernel
  exact this ⟨i.toNat, by omega⟩
/-- the drawn word, its first k signs and one -/
def wordF (c : Int) : Nat → Str
  | 0 => chr1 (sg (c % 33))
  | k + 1 => wordF c k ++ chr1 (sg (c / (99 * (1 + 33 * (k : Int))) % 34))
def wordN (c : Int) : Nat := (c / 33 % 3).toNat
def word (c : Int) : Str := wordF c (wordN c)
/-- a word of the document -/
structure IsWord (s : Str) : Prop where
  lo : 1 ≤ s.length
  hi : s.length ≤ 20
  sg : ∀ c ∈ TL.tl s, 33 ≤ c ∧ c ≤ 126 ∧ c ≠ 37
  no : s ≠ "/"
theorem wordF_len (c : Int) : ∀ k, (wordF c k).length = k + 1
  | 0 => rfl
  | k + 1 => by rw [wordF, len_app, wordF_len c k]; rfl
theorem wordF_sg (c : Int) : ∀ k, ∀ d ∈ TL.tl (wordF c k), 33 ≤ d ∧ d ≤ 126 ∧ d ≠ 37
  | 0, d, h => by
    have : d = sg (c % 33) := by simpa [wordF, TL.tl] using h
    subst this
    exact sg_in _ (by omega) (by omega)
  | k + 1, d, h => by
    rw [wordF, tl_app] at h
    rcases List.mem_append.mp h with h | h
    · exact wordF_sg c k d h
    · have : d = sg (c / (99 * (1 + 33 * (k : Int))) % 34) := by simpa [TL.tl] using h
      subst this
      exact sg_in _ (by omega) (by omega)
theorem wordF_hd (c : Int) : ∀ k, (TL.tl (wordF c k)).head? = some (sg (c % 33))
  | 0 => rfl
  | k + 1 => by rw [wordF, tl_app, List.head?_append, wordF_hd c k]; rfl
theorem wordN_le (c : Int) : wordN c ≤ 2 := by unfold wordN; omega
theorem word_ok (c : Int) : IsWord (word c) := by
  have h := wordN_le c
  refine ⟨by unfold word; rw [wordF_len]; omega, by unfold word; rw [wordF_len]; omega, wordF_sg c _, fun e => ?_⟩
  have h2 := wordF_hd c (wordN c)
  rw [show wordF c (wordN c) = "/" from e] at h2
  have h3 : (TL.tl ("/" : Str)).head? = some 47 := by decide +kernel
  rw [h3] at h2
  exact sg_slash (c % 33) (by omega) (by omega) (Option.some.inj h2).symm
theorem word_len (c : Int) : (word c).length ≤ 3 := by
  have h := wordN_le c
  unfold word
  rw [wordF_len]
  omega
/-- clauses: words with single blanks -/
abbrev sp : Str := " "
def clauseC (ws : List Str) : Str := Txt.join sp ws
def wordsC (s : Str) : List Str := if s = "" then [] else Txt.split s sp
theorem IsWord.blank {s : Str} (h : IsWord s) : 32 ∉ TL.tl s := fun m => by have := (h.sg 32 m).1; omega
theorem IsWord.ne {s : Str} (h : IsWord s) : TL.tl s ≠ [] := fun e => by
  have := h.lo
  rw [len_tl, e] at this
  exact absurd this (by decide)
theorem tl_sp : TL.tl sp = [32] := by decide +kernel
theorem tl_clause (ws : List Str) : TL.tl (clauseC ws) = TL.joinL [32] (ws.map TL.tl) := by
  unfold clauseC
  rw [TL.join_eq, TL.tl_join, tl_sp]
theorem joinL_ne {S : List Nat} : ∀ {ps : List (List Nat)}, ps ≠ [] → (∀ p ∈ ps, p ≠ []) → TL.joinL S ps ≠ []
  | [], h, _ => absurd rfl h
  | [p], _, k => k p List.mem_cons_self
  | p :: q :: r, _, k => fun e => k p List.mem_cons_self (List.append_eq_nil_iff.mp e).1
theorem str_ext {x y : Str} (h : TL.tl x = TL.tl y) : x = y := by
  cases x; cases y
  exact congrArg Str.mk (Array.toList_inj.mp h)
theorem tl_empty : TL.tl ("" : Str) = [] := by decide +kernel
theorem words_clause {ws : List Str} (h : ∀ w ∈ ws, IsWord w) : wordsC (clauseC ws) = ws := by
  unfold wordsC
  by_cases e : ws = []
  · subst e
    rw [if_pos (by apply str_ext; rw [tl_clause, tl_empty]; rfl)]
  · have ne : clauseC ws ≠ "" := fun z => by
      have z2 := congrArg TL.tl z
      rw [tl_clause, tl_empty] at z2
      refine joinL_ne (S := [32]) (ps := ws.map TL.tl) (by simpa using e) (fun p hp => ?_) z2
      obtain ⟨w, hw, rfl⟩ := List.mem_map.mp hp
      exact (h w hw).ne
    rw [if_neg ne]
    unfold clauseC
    exact TL.split_join (y := sp) (s := 32) (S := []) tl_sp (by decide +kernel) e fun p hp => (h p hp).blank
theorem joinL_len {S : List Nat} : ∀ ps : List (List Nat), (TL.joinL S ps).length ≤ (ps.map List.length).sum + ps.length * S.length
  | [] => Nat.zero_le _
  | [p] => by simp [TL.joinL]
  | p :: q :: r => by
    have ih := joinL_len (S := S) (q :: r)
    simp only [TL.joinL, List.length_append, List.map_cons, List.sum_cons, List.length_cons] at ih ⊢
    have : (r.length + 1 + 1) * S.length = (r.length + 1) * S.length + S.length := by rw [Nat.add_mul (r.length + 1), Nat.one_mul]
    omega
theorem clause_len (ws : List Str) : (clauseC ws).length ≤ (ws.map (·.length)).sum + ws.length := by
  rw [len_tl, tl_clause]
  refine Nat.le_trans (joinL_len _) ?_
  rw [List.map_map, List.length_map]
  have : (List.length ∘ TL.tl) = (fun s : Str => s.length) := by funext s; exact (len_tl s).symm
  rw [this]
  simp
theorem sum_le {α : Type} {f : α → Nat} {m : Nat} : ∀ {l : List α}, (∀ x ∈ l, f x ≤ m) → (l.map f).sum ≤ l.length * m
  | [], _ => Nat.zero_le _
  | x :: l, h => by
    have h1 := h x List.mem_cons_self
    have h2 := sum_le (f := f) (l := l) fun y hy => h y (List.mem_cons_of_mem _ hy)
    rw [List.map_cons, List.sum_cons, List.length_cons, Nat.add_mul, Nat.one_mul]
    omega
theorem sp_len : sp.length = 1 := by decide +kernel
theorem v_joinS {X : Cx} {ro : Ro} {om : Om} {e : Expr} {y : D} {ss : List Str} {j : Nat} {p2 apos cpos : Pos} (k : wv X ro om e y) (l : Lr om y (ss.map .str)) (hz : (ss.map (·.length)).sum + ss.length ≤ 16777216) (hs : starEach [e] X.env = (false, eval e X.env) :: starEach [] X.env)
    (hline : (apos.endLine == cpos.line) = true) (hfew : ((backTo cpos (starEach [e] X.env)).all (fun x => !x.1) && (backToKw cpos (keywordEach [] X.env)).all (fun x => x.1.isSome) && decide ([e].length + ([] : List Keyword).length + (if ([] : List Keyword).isEmpty then 0 else 1) < 30)) = true) :
    wv X ro om (.Call (.Attribute (.Constant (.str " ") j p2) "join" apos) [e] [] cpos) (.str (clauseC ss)) :=
  v_join v_str k l (by show _ + _ * sp.length ≤ _; rw [sp_len]; omega) rfl hfew hline hs rfl
end Mo

set_option Elab.async false
set_option linter.all false
set_option maxRecDepth 100000
set_option maxHeartbeats 4000000
set_option autoImplicit false
/-! Edits of lists, plainly. -/
namespace Mo
open PySem PySem.Spec PyProof.Rows L2
inductive Ed where
  | put (a : Int) (s : Str) | cut (a : Int) | turn (a : Int) (s : Str)
deriving DecidableEq
namespace Ed
def d : Ed → D
  | put a s => .tup [.str "put", .int a, .str s]
  | cut a => .tup [.str "cut", .int a]
  | turn a s => .tup [.str "turn", .int a, .str s]
def p : Ed → PyData
  | put a s => .tuple [.str "put", .int a, .str s]
  | cut a => .tuple [.str "cut", .int a]
  | turn a s => .tuple [.str "turn", .int a, .str s]
def at_ : Ed → Int
  | put a _ => a
  | cut a => a
  | turn a _ => a
def fits (n : Nat) : Ed → Bool
  | put a _ => decide (0 ≤ a) && decide (a ≤ n)
  | cut a => decide (0 ≤ a) && decide (a < n)
  | turn a _ => decide (0 ≤ a) && decide (a < n)
def laid (zs : List Str) : Ed → List Str
  | put a s => zs.take a.toNat ++ [s] ++ zs.drop a.toNat
  | cut a => zs.take a.toNat ++ zs.drop (a.toNat + 1)
  | turn a s => zs.take a.toNat ++ [s] ++ zs.drop (a.toNat + 1)
def back (zs : List Str) : Ed → Ed
  | put a _ => cut a
  | cut a => put a (zs.getD a.toNat "")
  | turn a _ => turn a (zs.getD a.toNat "")
theorem pd {om : Om} : ∀ e : Ed, Pd om e.d e.p
  | put _ _ => Pd.t (PdL.cons (Pd.str _) (PdL.cons (Pd.int _) (PdL.cons (Pd.str _) PdL.nil)))
  | cut _ => Pd.t (PdL.cons (Pd.str _) (PdL.cons (Pd.int _) PdL.nil))
  | turn _ _ => Pd.t (PdL.cons (Pd.str _) (PdL.cons (Pd.int _) (PdL.cons (Pd.str _) PdL.nil)))
theorem pk {n : Nat} : ∀ e : Ed, pokn (n + 1) e.p
  | put _ _ => pokn_tuple (all_cons pokn_str (all_cons pokn_int (all_cons pokn_str all_nil)))
  | cut _ => pokn_tuple (all_cons pokn_str (all_cons pokn_int all_nil))
  | turn _ _ => pokn_tuple (all_cons pokn_str (all_cons pokn_int (all_cons pokn_str all_nil)))
theorem fits_at {n : Nat} : ∀ {e : Ed}, fits n e = true → 0 ≤ e.at_ ∧ e.at_.toNat ≤ n
  | put a s, h => by
    simp only [fits, Bool.and_eq_true, decide_eq_true_eq] at h
    exact ⟨h.1, by show a.toNat ≤ n; omega⟩
  | cut a, h => by
    simp only [fits, Bool.and_eq_true, decide_eq_true_eq] at h
    exact ⟨h.1, by show a.toNat ≤ n; omega⟩
  | turn a s, h => by
    simp only [fits, Bool.and_eq_true, decide_eq_true_eq] at h
    exact ⟨h.1, by show a.toNat ≤ n; omega⟩
theorem laid_len {zs : List Str} {e : Ed} : (laid zs e).length ≤ zs.length + 1 := by
  cases e <;> simp only [laid, List.length_append, List.length_take, List.length_drop, List.length_cons, List.length_nil] <;> omega
theorem back_fits {zs : List Str} : ∀ {e : Ed}, fits zs.length e = true → fits (laid zs e).length (back zs e) = true
  | put a s, h => by
    simp only [fits, Bool.and_eq_true, decide_eq_true_eq] at h
    simp only [fits, back, laid, Bool.and_eq_true, decide_eq_true_eq, List.length_append, List.length_take, List.length_drop, List.length_cons, List.length_nil]
    omega
  | cut a, h => by
    simp only [fits, Bool.and_eq_true, decide_eq_true_eq] at h
    simp only [fits, back, laid, Bool.and_eq_true, decide_eq_true_eq, List.length_append, List.length_take, List.length_drop]
    omega
  | turn a s, h => by
    simp only [fits, Bool.and_eq_true, decide_eq_true_eq] at h
    simp only [fits, back, laid, Bool.and_eq_true, decide_eq_true_eq, List.length_append, List.length_take, List.length_drop, List.length_cons, List.length_nil]
    omega
theorem split {zs : List Str} {n : Nat} (h : n < zs.length) : zs = zs.take n ++ [zs.getD n ""] ++ zs.drop (n + 1) := by
  have e : zs.getD n "" = zs[n] := by rw [List.getD_eq_getElem?_getD, List.getElem?_eq_getElem h]; rfl
  rw [e, ← List.take_succ_eq_append_getElem h, List.take_append_drop]
theorem mid {α : Type} {xs ys : List α} {z : α} {n : Nat} (h : xs.length = n) : (xs ++ [z] ++ ys).take n = xs ∧ (xs ++ [z] ++ ys).drop n = z :: ys ∧ (xs ++ [z] ++ ys).drop (n + 1) = ys := by
  subst h
  refine ⟨by rw [List.append_assoc, List.take_left], by rw [List.append_assoc, List.drop_left]; rfl, ?_⟩
  rw [List.append_assoc, ← List.drop_drop, List.drop_left]
  rfl
theorem cat {α : Type} {xs ys : List α} {n : Nat} (h : xs.length = n) : (xs ++ ys).take n = xs ∧ (xs ++ ys).drop n = ys := by
  subst h
  exact ⟨by rw [List.take_left], by rw [List.drop_left]⟩
theorem back_laid {zs : List Str} : ∀ {e : Ed}, fits zs.length e = true → laid (laid zs e) (back zs e) = zs
  | put a s, h => by
    have ha := fits_at h
    simp only [at_] at ha
    obtain ⟨h1, h2, h3⟩ := mid (xs := zs.take a.toNat) (z := s) (ys := zs.drop a.toNat) (n := a.toNat) (by rw [List.length_take]; omega)
    simp only [laid, back]
    rw [h1, h3, List.take_append_drop]
  | cut a, h => by
    simp only [fits, Bool.and_eq_true, decide_eq_true_eq] at h
    have hl : a.toNat < zs.length := by omega
    obtain ⟨h1, h2⟩ := cat (xs := zs.take a.toNat) (ys := zs.drop (a.toNat + 1)) (n := a.toNat) (by rw [List.length_take]; omega)
    simp only [laid, back]
    rw [h1, h2, ← split hl]
  | turn a s, h => by
    simp only [fits, Bool.and_eq_true, decide_eq_true_eq] at h
    have hl : a.toNat < zs.length := by omega
    obtain ⟨h1, h2, h3⟩ := mid (xs := zs.take a.toNat) (z := s) (ys := zs.drop (a.toNat + 1)) (n := a.toNat) (by rw [List.length_take]; omega)
    simp only [laid, back]
    rw [h1, h3, ← split hl]
theorem back_back {zs : List Str} : ∀ {e : Ed}, fits zs.length e = true → back (laid zs e) (back zs e) = e
  | put a s, h => by
    have ha := fits_at h
    simp only [at_] at ha
    obtain ⟨h1, h2, h3⟩ := mid (xs := zs.take a.toNat) (z := s) (ys := zs.drop a.toNat) (n := a.toNat) (by rw [List.length_take]; omega)
    simp only [laid, back]
    have : (zs.take a.toNat ++ [s] ++ zs.drop a.toNat).getD a.toNat "" = s := by
      have e := congrArg List.head? h2
      rw [List.head?_drop] at e
      rw [List.getD_eq_getElem?_getD, e]
      rfl
    rw [this]
  | cut a, h => rfl
  | turn a s, h => by
    simp only [fits, Bool.and_eq_true, decide_eq_true_eq] at h
    obtain ⟨h1, h2, h3⟩ := mid (xs := zs.take a.toNat) (z := s) (ys := zs.drop (a.toNat + 1)) (n := a.toNat) (by rw [List.length_take]; omega)
    simp only [laid, back]
    have : (zs.take a.toNat ++ [s] ++ zs.drop (a.toNat + 1)).getD a.toNat "" = s := by
      have e := congrArg List.head? h2
      rw [List.head?_drop] at e
      rw [List.getD_eq_getElem?_getD, e]
      rfl
    rw [this]
/-- an edit laid on step by step -/
def pre (zs : List Str) : Ed → Nat → List Str
  | _, 0 => []
  | put a s, i + 1 => (pre zs (put a s) i ++ if (i : Int) = a then [s] else []) ++ zs[i]?.toList
  | cut a, i + 1 => pre zs (cut a) i ++ if (i : Int) = a then [] else zs[i]?.toList
  | turn a s, i + 1 => (pre zs (turn a s) i ++ if (i : Int) = a then [s] else []) ++ if (i : Int) = a then [] else zs[i]?.toList
theorem drop_take {zs : List Str} {n j : Nat} : (zs.drop n).take (j + 1) = (zs.drop n).take j ++ zs[n + j]?.toList := by rw [List.take_succ, List.getElem?_drop]
theorem pre_lo {zs : List Str} {e : Ed} : ∀ {i : Nat}, i ≤ e.at_.toNat → 0 ≤ e.at_ → pre zs e i = zs.take i
  | 0, _, _ => by cases e <;> rfl
  | i + 1, h, h0 => by
    have ih := pre_lo (zs := zs) (e := e) (i := i) (by omega) h0
    cases e with
    | put a s =>
      simp only [at_] at h h0
      have ne : (i : Int) ≠ a := by omega
      rw [pre, ih, if_neg ne, List.append_nil, List.take_succ]
    | cut a =>
      simp only [at_] at h h0
      have ne : (i : Int) ≠ a := by omega
      rw [pre, ih, if_neg ne, List.take_succ]
    | turn a s =>
      simp only [at_] at h h0
      have ne : (i : Int) ≠ a := by omega
      rw [pre, ih, if_neg ne, if_neg ne, List.append_nil, List.take_succ]
theorem pre_hi {zs : List Str} {e : Ed} (h0 : 0 ≤ e.at_) : ∀ {j : Nat}, pre zs e (e.at_.toNat + 1 + j) = match e with
    | put a s => zs.take a.toNat ++ [s] ++ (zs.drop a.toNat).take (j + 1)
    | cut a => zs.take a.toNat ++ (zs.drop (a.toNat + 1)).take j
    | turn a s => zs.take a.toNat ++ [s] ++ (zs.drop (a.toNat + 1)).take j
  | 0 => by
    have lo := pre_lo (zs := zs) (e := e) (i := e.at_.toNat) (Nat.le_refl _) h0
    cases e with
    | put a s =>
      simp only [at_] at h0 lo ⊢
      have e1 : ((a.toNat : Nat) : Int) = a := by omega
      rw [Nat.add_zero, pre, lo, if_pos e1, drop_take, List.take_zero, List.nil_append, Nat.add_zero]
    | cut a =>
      simp only [at_] at h0 lo ⊢
      have e1 : ((a.toNat : Nat) : Int) = a := by omega
      rw [Nat.add_zero, pre, lo, if_pos e1, List.take_zero]
    | turn a s =>
      simp only [at_] at h0 lo ⊢
      have e1 : ((a.toNat : Nat) : Int) = a := by omega
      rw [Nat.add_zero, pre, lo, if_pos e1, if_pos e1, List.take_zero]
  | j + 1 => by
    have ih := pre_hi (zs := zs) h0 (j := j)
    cases e with
    | put a s =>
      simp only [at_] at h0 ih ⊢
      have ne : ((a.toNat + 1 + j : Nat) : Int) ≠ a := by omega
      rw [← Nat.add_assoc, pre, ih, if_neg ne, List.append_nil, drop_take (j := j + 1), List.append_assoc, show a.toNat + 1 + j = a.toNat + (j + 1) by omega]
    | cut a =>
      simp only [at_] at h0 ih ⊢
      have ne : ((a.toNat + 1 + j : Nat) : Int) ≠ a := by omega
      rw [← Nat.add_assoc, pre, ih, if_neg ne, drop_take, List.append_assoc]
    | turn a s =>
      simp only [at_] at h0 ih ⊢
      have ne : ((a.toNat + 1 + j : Nat) : Int) ≠ a := by omega
      rw [← Nat.add_assoc, pre, ih, if_neg ne, if_neg ne, List.append_nil, drop_take, List.append_assoc]
theorem pre_all {zs : List Str} {e : Ed} (h : fits zs.length e = true) : pre zs e (zs.length + 1) = laid zs e := by
  obtain ⟨h0, h1⟩ := fits_at h
  obtain ⟨j, hj⟩ : ∃ j, zs.length = e.at_.toNat + j := ⟨zs.length - e.at_.toNat, by omega⟩
  rw [show zs.length + 1 = e.at_.toNat + 1 + j by omega, pre_hi h0]
  cases e with
  | put a s =>
    simp only [at_] at hj
    simp only [laid]
    rw [List.take_of_length_le (l := zs.drop a.toNat) (by rw [List.length_drop]; omega)]
  | cut a =>
    simp only [at_] at hj
    simp only [laid]
    rw [List.take_of_length_le (l := zs.drop (a.toNat + 1)) (by rw [List.length_drop]; omega)]
  | turn a s =>
    simp only [at_] at hj
    simp only [laid]
    rw [List.take_of_length_le (l := zs.drop (a.toNat + 1)) (by rw [List.length_drop]; omega)]
theorem pre_len {zs : List Str} {e : Ed} : ∀ i, (pre zs e i).length ≤ 2 * i
  | 0 => by cases e <;> exact Nat.zero_le _
  | i + 1 => by
    have ih := pre_len (zs := zs) (e := e) i
    have h1 : (zs[i]?.toList).length ≤ 1 := by cases zs[i]? <;> simp
    cases e with
    | put a s =>
      rw [pre, List.length_append, List.length_append]
      split <;> simp only [List.length_cons, List.length_nil] <;> omega
    | cut a =>
      rw [pre, List.length_append]
      split
      · simp only [List.length_nil]; omega
      · omega
    | turn a s =>
      rw [pre, List.length_append, List.length_append]
      split
      · simp only [List.length_cons, List.length_nil]; omega
      · simp only [List.length_nil]; omega
def kd : Ed → Str
  | put _ _ => "put"
  | cut _ => "cut"
  | turn _ _ => "turn"
def tl : Ed → List D
  | put _ s => [.str s]
  | cut _ => []
  | turn _ s => [.str s]
def th : Ed → Str
  | put _ s => s
  | cut _ => ""
  | turn _ s => s
theorem d_eq : ∀ e : Ed, e.d = .tup (.str e.kd :: .int e.at_ :: e.tl)
  | put _ _ => rfl
  | cut _ => rfl
  | turn _ _ => rfl
/-- the same edit at another place -/
def mv (b : Int) : Ed → Ed
  | put _ s => put b s
  | cut _ => cut b
  | turn _ s => turn b s
theorem mv_d (b : Int) : ∀ e : Ed, (mv b e).d = .tup (.str e.kd :: .int b :: e.tl)
  | put _ _ => rfl
  | cut _ => rfl
  | turn _ _ => rfl
theorem tl_th : ∀ {e : Ed}, e.kd ≠ "cut" → e.tl = [.str e.th]
  | put _ _, _ => rfl
  | cut _, h => absurd rfl h
  | turn _ _, _ => rfl
theorem kd_put (a : Int) (s : Str) : (put a s).kd = "put" := rfl
theorem s_cp : (("cut" : Str) = "put") = False := eq_false (by decide)
theorem s_tp : (("turn" : Str) = "put") = False := eq_false (by decide)
theorem s_pc : (("put" : Str) = "cut") = False := eq_false (by decide)
theorem s_tc : (("turn" : Str) = "cut") = False := eq_false (by decide)
theorem opt_list {zs : List Str} {i : Nat} : zs[i]?.toList = if decide ((i : Int) < (zs.length : Nat)) = true then [zs.getD i ""] else [] := by
  by_cases h : i < zs.length
  · rw [if_pos (by simpa using h), List.getElem?_eq_getElem h, List.getD_eq_getElem?_getD, List.getElem?_eq_getElem h]
    rfl
  · rw [if_neg (by simpa using h), List.getElem?_eq_none (by omega)]
    rfl
theorem pre_step {zs : List Str} {e : Ed} {i : Nat} : pre zs e (i + 1) = (pre zs e i ++ if (decide ((i : Int) = e.at_) && !decide (e.kd = "cut")) = true then [e.th] else []) ++
    if (decide ((i : Int) < (zs.length : Nat)) && (!decide ((i : Int) = e.at_) || decide (e.kd = "put"))) = true then [zs.getD i ""] else [] := by
  cases e with
  | put a s =>
    rw [pre, opt_list]
    by_cases h : (i : Int) = a <;> simp [h, at_, kd, th, s_pc]
  | cut a =>
    rw [pre, opt_list]
    by_cases h : (i : Int) = a <;> simp [h, at_, kd, th, s_cp]
  | turn a s =>
    rw [pre, opt_list]
    by_cases h : (i : Int) = a <;> simp [h, at_, kd, th, s_tp, s_tc]
/-- the law's own test of a place -/
theorem fits_due {n : Nat} : ∀ e : Ed, (decide (e.at_ < 0) || decide ((n : Nat) - (if (!decide (e.kd = "put")) = true then (1 : Int) else 0) < e.at_)) = !fits n e
  | put a s => by
    simp only [at_, kd, fits, decide_true, Bool.not_true, Bool.false_eq_true, if_false]
    by_cases h1 : a < 0
    · simp [h1, show ¬ 0 ≤ a by omega]
    · by_cases h2 : a ≤ n
      · simp [h1, h2, show 0 ≤ a by omega]
      · simp [h1, h2, show 0 ≤ a by omega, show (n : Int) < a by omega]
  | cut a => by
    simp only [at_, kd, fits, s_cp, decide_false, Bool.not_false, if_true]
    by_cases h1 : a < 0
    · simp [h1, show ¬ 0 ≤ a by omega]
    · by_cases h2 : a < n
      · simp [h1, h2, show 0 ≤ a by omega, show ¬ (n : Int) - 1 < a by omega]
      · simp [h1, h2, show 0 ≤ a by omega, show (n : Int) - 1 < a by omega]
  | turn a s => by
    simp only [at_, kd, fits, s_tp, decide_false, Bool.not_false, if_true]
    by_cases h1 : a < 0
    · simp [h1, show ¬ 0 ≤ a by omega]
    · by_cases h2 : a < n
      · simp [h1, h2, show 0 ≤ a by omega, show ¬ (n : Int) - 1 < a by omega]
      · simp [h1, h2, show 0 ≤ a by omega, show (n : Int) - 1 < a by omega]
end Ed
theorem at_0 {α : Type} {a : α} {r : List α} : atI (a :: r) (0 : Int) = some a := atI_nat (xs := (a :: r)) (show (a :: r)[0]? = _ from rfl)
theorem at_1 {α : Type} {a b : α} {r : List α} : atI (a :: b :: r) (1 : Int) = some b := atI_nat (xs := (a :: b :: r)) (show (a :: b :: r)[1]? = _ from rfl)
theorem at_2 {α : Type} {a b c : α} {r : List α} : atI (a :: b :: c :: r) (2 : Int) = some c := atI_nat (xs := (a :: b :: c :: r)) (show (a :: b :: c :: r)[2]? = _ from rfl)
/-! cuts of lists -/
theorem cut_to {α : Type} {xs : List α} {a : Int} (h : 0 ≤ a) : cut xs none (some a) = xs.take a.toNat := by
  unfold cut
  have e1 : HT.sIx xs.length 0 none = 0 := rfl
  have e2 : HT.sIx xs.length xs.length (some a) = min a.toNat xs.length := by
    have := HT.sIx_nat xs.length xs.length a.toNat
    rw [Int.toNat_of_nonneg h] at this
    exact this
  rw [e1, e2, List.drop_zero, Nat.sub_zero]
  rw [List.take_eq_take_iff]
  omega
theorem cut_from {α : Type} {xs : List α} {a : Int} (h : 0 ≤ a) : cut xs (some a) none = xs.drop a.toNat := by
  unfold cut
  have e1 : HT.sIx xs.length xs.length none = xs.length := rfl
  have e2 : HT.sIx xs.length 0 (some a) = min a.toNat xs.length := by
    have := HT.sIx_nat xs.length 0 a.toNat
    rw [Int.toNat_of_nonneg h] at this
    exact this
  rw [e1, e2]
  by_cases k : a.toNat ≤ xs.length
  · rw [Nat.min_eq_left k, List.take_of_length_le (by rw [List.length_drop]; omega)]
  · rw [Nat.min_eq_right (by omega), Nat.sub_self, List.take_zero, List.drop_of_length_le (by omega)]
/-- edits laid on one after the other -/
def stepE (r : Option (List Str)) (e : Ed) : Option (List Str) := r.bind fun z => if Ed.fits z.length e = true then some (Ed.laid z e) else none
def laidAll (zs : List Str) (es : List Ed) : Option (List Str) := es.foldl stepE (some zs)
theorem stepE_none : ∀ es : List Ed, es.foldl stepE none = none
  | [] => rfl
  | _ :: es => stepE_none es
theorem laidAll_take {zs : List Str} {es : List Ed} {i : Nat} {e : Ed} (h : es[i]? = some e) : laidAll zs (es.take (i + 1)) = stepE (laidAll zs (es.take i)) e := by
  have hl := (List.getElem?_eq_some_iff.mp h)
  obtain ⟨hl, he⟩ := hl
  unfold laidAll
  rw [List.take_succ_eq_append_getElem hl, List.foldl_append, he]
  rfl
theorem laidAll_stop {zs : List Str} {es : List Ed} {i : Nat} (h : laidAll zs (es.take i) = none) : laidAll zs es = none := by
  unfold laidAll at h ⊢
  rw [← List.take_append_drop i es, List.foldl_append, h, stepE_none]
/-- drawn clauses -/
def lcg (n : Int) : Nat → Int
  | 0 => n
  | k + 1 => lcg n k * 48271 % 4294967311
theorem lcg_succ {n : Int} {k : Nat} : lcg n (k + 1) = lcg n k * 48271 % 4294967311 := rfl
def clauseWs (c : Int) (k : Nat) : List Str := (List.range k).map fun i => word (lcg (c % 4294967311 + 1) (i + 1) / 5)
def clauseL (c : Int) : List Str := clauseWs c (c % 4).toNat
def drawn (c : Int) : Str := clauseC (clauseL c)
theorem clauseWs_succ (c : Int) (k : Nat) : clauseWs c (k + 1) = clauseWs c k ++ [word (lcg (c % 4294967311 + 1) (k + 1) / 5)] := by
  unfold clauseWs
  rw [List.range_succ, List.map_append]
  rfl
theorem clauseWs_sum (c : Int) (k : Nat) : ((clauseWs c k).map (·.length)).sum + (clauseWs c k).length ≤ k * 4 := by
  have hl : (clauseWs c k).length = k := by unfold clauseWs; rw [List.length_map, List.length_range]
  have h1 := sum_le (f := fun s : Str => s.length) (m := 3) (l := clauseWs c k) fun x hx => by
    unfold clauseWs at hx
    obtain ⟨i, _, rfl⟩ := List.mem_map.mp hx
    exact word_len _
  rw [hl] at h1 ⊢
  omega
theorem drawn_len (c : Int) : (drawn c).length ≤ 12 := by
  have h := clause_len (clauseL c)
  have h2 := clauseWs_sum c (c % 4).toNat
  have h3 : (c % 4).toNat ≤ 3 := by omega
  unfold drawn
  unfold clauseL at h ⊢
  omega
theorem Ed.ty {K : PySem.W.Frag} {om : Om} {e : Ed} : Ty K om e.d (.type "tuple") := by
  rw [Ed.d_eq]
  exact Ty.tup
theorem Ed.ix0 {X : Cx} {om : Om} {e : Ed} : Ix X om e.d (.int 0) (.str e.kd) := by
  rw [Ed.d_eq]
  exact ix_T at_0
theorem Ed.ix1 {X : Cx} {om : Om} {e : Ed} : Ix X om e.d (.int 1) (.int e.at_) := by
  rw [Ed.d_eq]
  exact ix_T at_1
theorem Ed.atL {zs : List Str} {a : Int} (h0 : 0 ≤ a) (h1 : a < zs.length) : atI (zs.map D.str) a = some (.str (zs.getD a.toNat "")) := by
  have e1 : a = (a.toNat : Int) := by omega
  have h2 : a.toNat < zs.length := by omega
  have : atI (zs.map D.str) (a.toNat : Int) = some (.str (zs.getD a.toNat "")) := by
    refine atI_nat ?_
    rw [List.getElem?_map, List.getD_eq_getElem?_getD, List.getElem?_eq_getElem h2]
    rfl
  rw [← e1] at this
  exact this
theorem cut_two {α : Type} {a b : α} {r : List α} : cut (a :: b :: r) (some 2) none = r := cut_from (by decide)
theorem ups_keep {om : Om} {p q : Addr} {o u : DO} (h : om p = some u) (hq : om q = none) : ups om q o p = some u := by
  rw [ups_ne (fun z => by subst z; rw [h] at hq; cases hq)]
  exact h
theorem un_1 {n : Nat} (h : n + 150 < cLine) : n + 1 < cLine := by omega
theorem un_64 {n : Nat} (h : n + 150 < cLine) : n + 64 < cLine := by omega
theorem un_65 {n : Nat} (h : n + 150 < cLine) : n + 65 < cLine := by omega
end Mo

set_option Elab.async false
set_option linter.all false
set_option maxRecDepth 100000
set_option maxHeartbeats 4000000
set_option autoImplicit false
/-! Small things: ranges over a natural number, last items. -/
namespace Mo
open PySem PySem.Spec PyProof.Rows L2
section
variable {X : Cx} {ro : Ro} {om : Om} {e : Expr} {x : D}
theorem it_rN {tg : Expr} {p p1 : Pos} {n : Nat} (h : wv X ro om e (.int n)) (hm : X.mg "range" = none) (hn : n < 2 ^ 60) (hg : Gl X "range") (hs : starEach [e] X.env = [(false, eval e X.env)]) :
    Itd X ro om tg (.Call (.Name "range" p) [e] [] p1) ((List.range n).map fun (i : Nat) => .int (i : Int)) (fun _ => True) := by
  have r := it_r1 (tg := tg) (p := p) (p1 := p1) h hm (by omega) (by omega) hg hs
  rw [Int.toNat_natCast] at r
  exact r
end
theorem at_last {α : Type} {xs : List α} {a : α} : atI (xs ++ [a]) (-1) = some a := by
  unfold atI
  have e : ixN (xs ++ [a]).length (-1) = some xs.length := by
    rw [List.length_append, List.length_singleton]
    unfold ixN
    rw [if_neg (by omega), if_pos (by omega)]
    congr 1
    omega
  rw [e]
  show (xs ++ [a])[xs.length]? = some a
  rw [List.getElem?_append_right (Nat.le_refl _), Nat.sub_self]
  rfl
theorem at_map {α β : Type} {f : α → β} {xs : List α} {i : Nat} {x : α} (h : xs[i]? = some x) : atI (xs.map f) (i : Int) = some (f x) := atI_nat (by rw [List.getElem?_map, h]; rfl)
/-- the item of a mapped range -/
theorem rng_item {β : Type} {f : Nat → β} {n i : Nat} {d : β} (h : ((List.range n).map f)[i]? = some d) : i < n ∧ d = f i := by
  rw [List.getElem?_map] at h
  obtain ⟨t, ht, rfl⟩ := Option.map_eq_some_iff.mp h
  obtain ⟨hlt, et⟩ := List.getElem?_eq_some_iff.mp ht
  rw [List.getElem_range] at et
  subst et
  rw [List.length_range] at hlt
  exact ⟨hlt, rfl⟩
/-- the item of a mapped list -/
theorem map_item {α β : Type} {f : α → β} {xs : List α} {i : Nat} {d : β} (h : (xs.map f)[i]? = some d) : ∃ x, xs[i]? = some x ∧ d = f x := by
  rw [List.getElem?_map] at h
  obtain ⟨t, ht, rfl⟩ := Option.map_eq_some_iff.mp h
  exact ⟨t, ht, rfl⟩
theorem cut_len {α : Type} {xs : List α} {a b : Nat} : (cut xs (some (a : Int)) (some (b : Int))).length ≤ b - a := by
  unfold cut
  rw [List.length_take]
  have h1 : HT.sIx xs.length xs.length (some (b : Int)) = min b xs.length := HT.sIx_nat xs.length xs.length b
  have h2 : HT.sIx xs.length 0 (some (a : Int)) = min a xs.length := HT.sIx_nat xs.length 0 a
  omega
theorem PdL.eds {om : Om} (l : List Ed) : PdL om (l.map Ed.d) (l.map Ed.p) := PdL.map (fun e => Ed.pd e) l
end Mo

set_option Elab.async false
set_option linter.all false
set_option maxRecDepth 100000
set_option maxHeartbeats 4000000
set_option autoImplicit false
/-! Instances: made, their methods called, their fields stored. -/
namespace Mo
open PySem PySem.Spec PyProof.Rows L2
/-- a method of the class at C that keeps its promise -/
structure MethOk (P : Program) (w : World) (K : PySem.W.Frag) (mg : Str → Option Value) (base : Heap) (C : Addr) (m : Str) (k n : Nat) (G : Fs) : Prop where
  cl : Cls K C
  ex : ∃ (f : Addr) (fd : FuncData) (ps : List Str), Meth K C m f ∧ FnOk P w K mg base (L2.CX P w) k f fd ps (spD K n G) ∧ Binds K fd ps []
theorem mk_of {P : Program} {w : World} {K : PySem.W.Frag} {mg : Str → Option Value} {base : Heap} {C : Addr} {m : Str} {k n : Nat} {G : Fs} {f : Addr} {fd : FuncData} {ps : List Str} (h : FnOk P w K mg base (L2.CX P w) k f fd ps (spD K n G)) (c : Cls K C) (hm : Meth K C m f) (hb : Binds K fd ps []) :
    MethOk P w K mg base C m k n G := ⟨c, f, fd, ps, hm, h, hb⟩
/-- x names the class at C, whose __init__ keeps its promise -/
structure MkOk (P : Program) (w : World) (K : PySem.W.Frag) (mg : Str → Option Value) (base : Heap) (x : Str) (C : Addr) (k n : Nat) (G : Fs) : Prop where
  g : mg x = some (.ref C)
  cl : Cls K C
  ex : ∃ (f : Addr) (fd : FuncData) (ps : List Str), Mk K C f ∧ FnOk P w K mg base (L2.CX P w) k f fd ps (spD K n G) ∧ Binds K fd ps []
/-- x names the class at C, that has no __init__ -/
structure Mk0 (K : PySem.W.Frag) (mg : Str → Option Value) (x : Str) (C : Addr) : Prop where
  g : mg x = some (.ref C)
  cl : Cls K C
  makes : PySem.W.makesIn K C = true
  ini : PySem.W.findIn K (.ref C) "__init__" = some (some (.builtin "object.__init__"))
  kp : PySem.W.keepIn K (.ref C) = true
section
variable {X : Cx} {R : RX} {F : De} {ro : Ro} {om : Om} {e o : Expr} {es : List Expr} {pos apos : Pos} {rest : List Stmt} {x d z : D} {m xn f : Str}

/-! ### o.m(..) -/
theorem e_meth {Q : DK} {pl : Sem Bool} (h : we X R ro om o fun x om1 => ∃ (a C : Addr) (fs : List (Str × D)) (k n : Nat) (G : Fs), x = .obj a ∧ om1 a = some (.ins C fs) ∧ fs.lookup m = none ∧ MethOk X.prog X.w X.K X.mg X.base C m k n G ∧ Room k X.A ∧
      wa X R ro om1 (e :: es) fun ds om2 => ds.length + 1 = n ∧ G (.obj a :: ds) om2 Q fun c fs om' => R c fs ro om')
    (hst : starEach (e :: es) X.env = (false, eval e X.env) :: starEach es X.env := by rfl) (hpl : (backTo pos (starEach es X.env)).any (·.1) = false := by rfl)
    (ht : eval (.Call (.Attribute o m apos) (e :: es) [] pos) X.env = (do
      let ov ← eval o X.env
      standAt apos.atName
      let (f, first) ← holding [ov] (getMethod ov m pl)
      callWith pos f first (backTo pos (starEach (e :: es) X.env)) (backToKw pos (keywordEach [] X.env))) := by rfl) : we X R ro om (.Call (.Attribute o m apos) (e :: es) [] pos) Q := .mk fun om0 H0 t σ H ok pins s I => by
  refine PySem.W.methodCall_KW (pl := pl) (thn (h om0 H0 t σ H ok pins s I) fun u s1 ⟨v, H1, I1, ru, x, om1, ⟨a, C, fs, k, n, G, ex, hp, hl, M, hr, q⟩, o1, r1⟩ => ?_) ht
  subst ex
  cases r1
  obtain rfl : u = Value.ref a := ru
  obtain ⟨c, f, fd, ps, hm, Fo, hb⟩ := M
  obtain ⟨dx, fs', h1, h2, h3⟩ := o1.store _ _ hp
  refine getmeth_ok I1 h1 c hm (lk_none h2 hl) ?_
  refine PySem.W.callWith_K (first := [.ref a]) (h₀ := X.base) I1.ok.mod.kin hm.kp (thn (q om1 H1 (t.at o1.stab) σ H1 ⟨o1.store, Stable.refl, o1.slot, o1.len⟩ pos pins s1 I1) fun us s2 ⟨vs, H2, I2, r, ds, om2, ⟨hn, g⟩, o2, r2⟩ => ⟨I2.kIn, ?_⟩) hst hpl
  have o3 : Ok X.K om0 H0 om2 H2 σ ro := ⟨o2.store, o1.stab.trans o2.stab, o2.slot, o2.len⟩
  exact run_fnS (us := .ref a :: us) (vs := .ref a :: vs) Fo hr hb (passAt t σ) I2 (.cons rfl r) (sp_run (ds := .obj a :: ds) o3 ⟨_, _, rfl, rfl, r2⟩ hn g)
theorem e_meth0 {Q : DK} {pl : Sem Bool} (h : we X R ro om o fun x om1 => ∃ (a C : Addr) (fs : List (Str × D)) (k : Nat) (G : Fs), x = .obj a ∧ om1 a = some (.ins C fs) ∧ fs.lookup m = none ∧ MethOk X.prog X.w X.K X.mg X.base C m k 1 G ∧ Room k X.A ∧
      G [.obj a] om1 Q fun c fs om' => R c fs ro om')
    (ht : eval (.Call (.Attribute o m apos) [] [] pos) X.env = (do
      let ov ← eval o X.env
      standAt apos.atName
      let (f, first) ← holding [ov] (getMethod ov m pl)
      callWith pos f first (backTo pos (starEach [] X.env)) (backToKw pos (keywordEach [] X.env))) := by rfl) : we X R ro om (.Call (.Attribute o m apos) [] [] pos) Q := .mk fun om0 H0 t σ H ok pins s I => by
  refine PySem.W.methodCall_KW (pl := pl) (thn (h om0 H0 t σ H ok pins s I) fun u s1 ⟨v, H1, I1, ru, x, om1, ⟨a, C, fs, k, G, ex, hp, hl, M, hr, g⟩, o1, r1⟩ => ?_) ht
  subst ex
  cases r1
  obtain rfl : u = Value.ref a := ru
  obtain ⟨c, f, fd, ps, hm, Fo, hb⟩ := M
  obtain ⟨dx, fs', h1, h2, h3⟩ := o1.store _ _ hp
  refine getmeth_ok I1 h1 c hm (lk_none h2 hl) ?_
  exact PySem.W.callWith_K0 (first := [.ref a]) I1.kIn hm.kp (run_fnS (us := [.ref a]) (vs := [.ref a]) Fo hr hb (passAt t σ) I1 (.cons rfl .nil) (sp_run (ds := [.obj a]) o1 ⟨_, _, rfl, rfl, rfl⟩ rfl g))
/-- pure uses -/
theorem v_meth {a C : Addr} {fs : List (Str × D)} {k n : Nat} {G : Fs} {ds : List D} {pl : Sem Bool} (h : wv X ro om o (.obj a)) (hp : om a = some (.ins C fs)) (hl : fs.lookup m = none) (M : MethOk X.prog X.w X.K X.mg X.base C m k n G) (hr : Room k X.A) (ha : wav X ro om (e :: es) ds) (hn : ds.length + 1 = n) (g : Pu G om (.obj a :: ds) z)
    (hst : starEach (e :: es) X.env = (false, eval e X.env) :: starEach es X.env := by rfl) (hpl : (backTo pos (starEach es X.env)).any (·.1) = false := by rfl)
    (ht : eval (.Call (.Attribute o m apos) (e :: es) [] pos) X.env = (do
      let ov ← eval o X.env
      standAt apos.atName
      let (f, first) ← holding [ov] (getMethod ov m pl)
      callWith pos f first (backTo pos (starEach (e :: es) X.env)) (backToKw pos (keywordEach [] X.env))) := by rfl) : wv X ro om (.Call (.Attribute o m apos) (e :: es) [] pos) z := .mk fun R Q q =>
  e_meth (pl := pl) (h R _ ⟨a, C, fs, k, n, G, rfl, hp, hl, M, hr, ha R _ ⟨hn, g _ _ q⟩⟩) hst hpl ht
theorem v_meth0 {a C : Addr} {fs : List (Str × D)} {k : Nat} {G : Fs} {pl : Sem Bool} (h : wv X ro om o (.obj a)) (hp : om a = some (.ins C fs)) (hl : fs.lookup m = none) (M : MethOk X.prog X.w X.K X.mg X.base C m k 1 G) (hr : Room k X.A) (g : Pu G om [.obj a] z)
    (ht : eval (.Call (.Attribute o m apos) [] [] pos) X.env = (do
      let ov ← eval o X.env
      standAt apos.atName
      let (f, first) ← holding [ov] (getMethod ov m pl)
      callWith pos f first (backTo pos (starEach [] X.env)) (backToKw pos (keywordEach [] X.env))) := by rfl) : wv X ro om (.Call (.Attribute o m apos) [] [] pos) z := .mk fun R Q q =>
  e_meth0 (pl := pl) (h R _ ⟨a, C, fs, k, G, rfl, hp, hl, M, hr, g _ _ q⟩) ht
theorem n_meth0 {a C : Addr} {fs : List (Str × D)} {k : Nat} {G : Fs} {zs : List D} {pl : Sem Bool} (h : wv X ro om o (.obj a)) (hp : om a = some (.ins C fs)) (hl : fs.lookup m = none) (M : MethOk X.prog X.w X.K X.mg X.base C m k 1 G) (hr : Room k X.A) (g : Pn G om [.obj a] zs)
    (ht : eval (.Call (.Attribute o m apos) [] [] pos) X.env = (do
      let ov ← eval o X.env
      standAt apos.atName
      let (f, first) ← holding [ov] (getMethod ov m pl)
      callWith pos f first (backTo pos (starEach [] X.env)) (backToKw pos (keywordEach [] X.env))) := by rfl) : wn X ro om (.Call (.Attribute o m apos) [] [] pos) zs := .mk fun R Q q =>
  e_meth0 (pl := pl) (h R _ ⟨a, C, fs, k, G, rfl, hp, hl, M, hr, g _ _ q⟩) ht

/-! ### C(..) -/
theorem make_store {K : PySem.W.Frag} {om1 : Om} {H1 : Hp} {a dx C : Addr} (S : StoreOk K om1 H1) (ha : H1 a = none) (hd : H1 dx = none) (ne : dx ≠ a) :
    StoreOk K (ups om1 a (.ins C [])) (upd (upd H1 dx (.own a)) a (.ins C dx [])) ∧ Stable om1 H1 (ups om1 a (.ins C [])) (upd (upd H1 dx (.own a)) a (.ins C dx [])) := by
  have S1 := S.new hd (u := .own a)
  have s1 : Stable om1 H1 om1 (upd H1 dx (.own a)) := Stable.new hd
  have h2 : (upd H1 dx (.own a)) a = none := by rw [upd_ne (Ne.symm ne)]; exact ha
  exact ⟨S1.mk h2 ⟨dx, [], upd_same, rfl, rfl⟩, s1.trans (Stable.mk h2)⟩
theorem no_pass {P : Program} {w : World} {X : Cx} (h : X.prog = P) (hw : X.w = w) : Passes (L2.CX P w) X (fun _ _ _ => False) := fun _ _ _ _ _ _ _ z => by
  obtain ⟨_, _, _, _, _, _, _, _, _, _, _, _, z⟩ := z
  exact z.elim
theorem make_sp {K : PySem.W.Frag} {C : Addr} {n : Nat} {G : Fs} {Q : DK} {om0 om1 : Om} {H0 H1 : Hp} {σ : L2.St} {ds : List D} {vs : List V} (o1 : Ok K om0 H0 om1 H1 σ ro) (r : RepL K om1 H1 ds vs) (hn : ds.length + 1 = n)
    (g : ∀ a, om1 a = none → G (.obj a :: ds) (ups om1 a (.ins C [])) (fun d om' => d = .non ∧ Q (.obj a) om') (fun _ _ _ => False)) (a dx : Addr) (ha : H1 a = none) (hd : H1 dx = none) (ne : dx ≠ a) :
    spD K n G (.ref a :: (vs ++ [])) (upd (upd H1 dx (.own a)) a (.ins C dx [])) (fun v H2 => v = .non ∧ ∃ d om', Q d om' ∧ Ok K om0 H0 om' H2 σ ro ∧ Rep K om' H2 d (.ref a)) (fun _ _ _ => False) := by
  obtain ⟨S2, s2⟩ := make_store (C := C) o1.store ha hd ne
  refine ⟨_, .obj a :: ds, _, _, S2, ?_, hn, g a (o1.store.fresh ha), fun d om' v H' ⟨e, q⟩ S s rd => ?_, fun _ _ _ _ _ z => z.elim⟩
  · rw [List.append_nil]
    exact ⟨_, _, rfl, rfl, r.mono s2⟩
  · subst e
    exact ⟨rd, .obj a, om', q, o1.to S (s2.trans s), rfl⟩
theorem e_make {C : Addr} {k n : Nat} {G : Fs} {Q : DK} {p : Pos} (Mq : MkOk X.prog X.w X.K X.mg X.base xn C k n G) (hr : Room (k + 1) X.A)
    (h : wa X R ro om (e :: es) fun ds om1 => ds.length + 1 = n ∧ ∀ a, om1 a = none → G (.obj a :: ds) (ups om1 a (.ins C [])) (fun d om' => d = .non ∧ Q (.obj a) om') (fun _ _ _ => False))
    (hg : Gl X xn) (hdb : (xn == ("__debug__" : Str)) = false := by decide) (he : starEach (e :: es) X.env = (false, eval e X.env) :: starEach es X.env := by rfl) (hpl : (backTo pos (starEach es X.env)).any (·.1) = false := by rfl) :
    we X R ro om (.Call (.Name xn p) (e :: es) [] pos) Q := .mk fun om0 H0 t σ H o => by
  obtain ⟨f, fd, ps, M, Fo, hb⟩ := Mq.ex
  refine pE_of (pe_make M Fo hr hg Mq.g hb .nil (no_pass rfl rfl) pA_pa hdb he hpl) ?_
  exact pA_mono (h om0 H0 t σ H o) fun vs H1 ⟨ds, om1, ⟨hn, g⟩, o1, r⟩ a dx ha hd ne => make_sp o1 r hn g a dx ha hd ne
theorem e_make0 {C : Addr} {k : Nat} {G : Fs} {Q : DK} {p : Pos} (Mq : MkOk X.prog X.w X.K X.mg X.base xn C k 1 G) (hr : Room (k + 1) X.A)
    (g : ∀ a, om a = none → G [.obj a] (ups om a (.ins C [])) (fun d om' => d = .non ∧ Q (.obj a) om') (fun _ _ _ => False))
    (hg : Gl X xn) (hdb : (xn == ("__debug__" : Str)) = false := by decide) : we X R ro om (.Call (.Name xn p) [] [] pos) Q := .mk fun om0 H0 t σ H o => by
  obtain ⟨f, fd, ps, M, Fo, hb⟩ := Mq.ex
  refine pE_of (pe_make0 M Fo hr hg Mq.g hb .nil (no_pass rfl rfl) hdb) ?_
  exact fun a dx ha hd ne => make_sp (ds := []) (vs := []) o rfl rfl g a dx ha hd ne
/-- C(), no __init__ -/
theorem e_make00 {C : Addr} {Q : DK} {p : Pos} (M : Mk0 X.K X.mg xn C) (q : ∀ a, om a = none → Q (.obj a) (ups om a (.ins C []))) (hg : Gl X xn) (hdb : (xn == ("__debug__" : Str)) = false := by decide) :
    we X R ro om (.Call (.Name xn p) [] [] pos) Q := .mk fun om0 H0 t σ H o pins s I => by
  refine wpAny_Call_Name_kw (ld_glob I hg M.g ?_ hdb)
  have Y := PySem.W.makes_of (M := model X.prog X.w) I.kIn M.makes
  refine PySem.W.callWith_K0 I.kIn M.kp (wpAny_call (make_map0 I.kIn M.makes M.ini (fun self => PySem.W.Looks.of_pure (PySem.W.oi_bind self)) ?_))
  have I2 := Inv.made (C := C) I
  have ha : H (s.heap.objs.size + 1) = none := I.hok.fresh (Nat.le_succ _)
  have hd : H s.heap.objs.size = none := I.hok.fresh (Nat.le_refl _)
  have ne : s.heap.objs.size ≠ s.heap.objs.size + 1 := Nat.ne_of_lt (Nat.lt_succ_self _)
  obtain ⟨S2, s2⟩ := make_store (C := C) o.store ha hd ne
  have hx : ((s.heap.push PySem.W.emptyDict).push (PySem.W.instObj C s.heap.objs.size)).get? (s.heap.objs.size + 1) = some (PySem.W.instObj C s.heap.objs.size) := by
    have := Heap.get?_push_size (s.heap.push PySem.W.emptyDict) (o := PySem.W.instObj C s.heap.objs.size) rfl
    rwa [Heap.size_push] at this
  have t1 : PySem.W.Looks (model X.prog X.w) ((s.heap.push PySem.W.emptyDict).push (PySem.W.instObj C s.heap.objs.size)) (typeOf (.ref (s.heap.objs.size + 1))) (.ref C) := (PySem.W.Looks.ld hx).andThen .now
  have t2 : PySem.W.Looks (model X.prog X.w) ((s.heap.push PySem.W.emptyDict).push (PySem.W.instObj C s.heap.objs.size)) (isInstance (.ref (s.heap.objs.size + 1)) (.type "object")) true := t1.andThen (Y.top.keeps fun b o e => Heap.get?_push_of_some _ (Heap.get?_push_of_some _ e))
  refine codeAny_call_builtin PySem.W.oi_plain PySem.W.entry_oi (@PySem.W.check_slot (model X.prog X.w) _ _ _ "object.__init__" "object" "__init__" (.ref (s.heap.objs.size + 1)) [] [] _ PySem.W.oi_kind PySem.W.oi_split t2 (PySem.W.oi_args (.ref (s.heap.objs.size + 1))) ?_)
  rw [PySem.W.oi_run]
  refine wpAny_pure (And.intro rfl ?_)
  exact ⟨.ref (s.heap.objs.size + 1), _, I2, rfl, .obj (s.heap.objs.size + 1), _, q _ (o.store.fresh ha), o.to S2 s2, rfl⟩

/-! ### self.f = e -/
theorem st_fld {p C : Addr} {fs : List (Str × D)} {pos' : Pos} (h : wv X ro om e d) (ho : wv X ro om o (.obj p)) (hp : om p = some (.ins C fs)) (A : Att X.K C f) (hl : fs.length < 1000) (k : ws X F ro (ups om p (.ins C (putD f d fs))) rest)
    (hs : swapsWith e (some (.Attribute o f pos')) pos.line X.env = pure false := by rfl) : ws X F ro om (.Assign [.Attribute o f pos'] e pos :: rest) := ws_cons (s_fld (h _ _ (ho _ _ ⟨p, C, fs, rfl, hp, A, hl, k⟩)) hs)
/-- .. the value a new list -/
theorem st_fldN {p C : Addr} {fs : List (Str × D)} {ds : List D} {pos' : Pos} (h : wn X ro om e ds) (ho : ∀ q, om q = none → wv X ro (ups om q (.lst ds)) o (.obj p)) (hp : om p = some (.ins C fs)) (A : Att X.K C f) (hl : fs.length < 1000)
    (k : ∀ q, om q = none → q ≠ p → ws X F ro (ups (ups om q (.lst ds)) p (.ins C (putD f (.obj q) fs))) rest)
    (hs : swapsWith e (some (.Attribute o f pos')) pos.line X.env = pure false := by rfl) : ws X F ro om (.Assign [.Attribute o f pos'] e pos :: rest) := ws_cons (s_fld (h _ _ fun q hq => ho q hq _ _ ⟨p, C, fs, rfl, ups_keep hp hq, A, hl, k q hq (fun z => by subst z; rw [hp] at hq; cases hq)⟩) hs)
/-- an expression of any effect as a statement -/
theorem st_e (h : we X F.ex ro om e fun _ om' => ws X F ro om' rest) (hs : swapsWith e none pos.line X.env = pure false := by rfl) : ws X F ro om (.Expr e pos :: rest) := ws_cons (s_expr h hs)
/-- name = e, of any effect -/
theorem Lo.setE {i : Nat} {xn : Str} {pos' : Pos} (l : Lo X i xn) (nd : X.N.Nodup) (h : we X F.ex ro om e fun d om' => ws X F (ro.set i (some d)) om' rest) (hs : swapsWith e (some (.Name xn pos')) pos.line X.env = pure false := by rfl) : ws X F ro om (.Assign [.Name xn pos'] e pos :: rest) := ws_cons (l.asg nd h hs)
end
/-! ### the facts -/
section
variable {P : Program} {w : World} {K : PySem.W.Frag} {mg : Str → Option Value} {base h : Heap} {x y m f : Str}
theorem fMk0_ok (X : K.In h) (G : h.Ns mainGlobals mg) (c : fMk0 x K = true) : Mk0 K mg x (He.ga K x) := by
  unfold fMk0 at c
  simp only [Bool.and_eq_true] at c
  obtain ⟨⟨⟨⟨c1, c2⟩, c3⟩, c4⟩, c5⟩ := c
  exact ⟨fGlo_ok X G c1, He.cls_ok c2, c3, He.eqO_ok c4, c5⟩
theorem fMk_ok {k n : Nat} {Gf : Fs} {fd : FuncData} {ps : List Str} (X : K.In h) (G : h.Ns mainGlobals mg) (c : fMk x K = true) (ok : FnOk P w K mg base (L2.CX P w) k (He.ma K (He.ga K x) "__init__") fd ps (spD K n Gf)) (hb : Binds K fd ps []) : MkOk P w K mg base x (He.ga K x) k n Gf := by
  unfold fMk at c
  simp only [Bool.and_eq_true] at c
  obtain ⟨⟨c1, c2⟩, c3⟩ := c
  exact ⟨fGlo_ok X G c1, He.cls_ok c2, _, fd, ps, He.mkr_ok c3, ok, hb⟩
theorem fAtt_ok (c : fAtt x f K = true) : Att K (He.ga K x) f := by
  obtain ⟨c1, c2⟩ := Bool.and_eq_true_iff.mp c
  exact ⟨He.cls_ok c1, He.noat_ok c2⟩
theorem fMth_ok {k n : Nat} {Gf : Fs} {fd : FuncData} {ps : List Str} (c : fMth x m K = true) (ok : FnOk P w K mg base (L2.CX P w) k (He.ma K (He.ga K x) m) fd ps (spD K n Gf)) (hb : Binds K fd ps []) : MethOk P w K mg base (He.ga K x) m k n Gf := by
  obtain ⟨c1, c2⟩ := Bool.and_eq_true_iff.mp c
  exact ⟨He.cls_ok c1, _, fd, ps, He.meth_ok c2, ok, hb⟩
theorem fInh_ok {k n : Nat} {Gf : Fs} {fd : FuncData} {ps : List Str} (c : fInh x y m K = true) (ok : FnOk P w K mg base (L2.CX P w) k (He.ma K (He.ga K y) m) fd ps (spD K n Gf)) (hb : Binds K fd ps []) : MethOk P w K mg base (He.ga K x) m k n Gf := by
  unfold fInh at c
  simp only [Bool.and_eq_true, decide_eq_true_eq] at c
  obtain ⟨⟨c1, c2⟩, c3⟩ := c
  rw [← c3] at ok
  exact ⟨He.cls_ok c1, _, fd, ps, He.meth_ok c2, ok, hb⟩
theorem fIns_ok (c : fIns x K = true) : InsC K (He.ga K x) := by
  unfold fIns at c
  simp only [Bool.and_eq_true, decide_eq_true_eq] at c
  obtain ⟨⟨⟨⟨c1, c2⟩, c3⟩, c4⟩, c5⟩ := c
  exact ⟨He.cls_ok c1, He.eqO_ok c2, He.eqO_ok c3, c4, c5⟩
end
end Mo

set_option Elab.async false
set_option linter.all false
set_option maxRecDepth 100000
set_option maxHeartbeats 4000000
set_option autoImplicit false
/-! Motions: as they are told, as they are kept. -/
namespace Mo
open PySem PySem.Spec PyProof.Rows L2
/-- a motion as it is told -/
inductive Td where
  | matter (t : List Str) | change (e : Ed) | mend (e : Ed) | putOff (n : Int) | close | lay | rest | point (s : Str)
deriving DecidableEq
namespace Td
def kind : Td → Str
  | matter _ => "matter" | change _ => "change" | mend _ => "mend" | putOff _ => "put off" | close => "close" | lay => "lay" | rest => "rest" | point _ => "point"
def rank : Td → Int
  | matter _ => 0 | change _ => 1 | mend _ => 2 | putOff _ => 3 | close => 4 | lay => 5 | rest => 6 | point _ => 7
def d : Td → D
  | matter t => .tup [.str "matter", .lst (t.map .str)]
  | change e => .tup [.str "change", e.d]
  | mend e => .tup [.str "mend", e.d]
  | putOff n => .tup [.str "put off", .int n]
  | close => .tup [.str "close"]
  | lay => .tup [.str "lay"]
  | rest => .tup [.str "rest"]
  | point s => .tup [.str "point", .str s]
def p : Td → PyData
  | matter t => .tuple [.str "matter", .list (t.map .str)]
  | change e => .tuple [.str "change", e.p]
  | mend e => .tuple [.str "mend", e.p]
  | putOff n => .tuple [.str "put off", .int n]
  | close => .tuple [.str "close"]
  | lay => .tuple [.str "lay"]
  | rest => .tuple [.str "rest"]
  | point s => .tuple [.str "point", .str s]
theorem pd {om : Om} : ∀ t : Td, Pd om t.d t.p
  | matter t => Pd.t (.cons (Pd.str _) (.cons (Pd.l (PdL.strs t)) .nil))
  | change e => Pd.t (.cons (Pd.str _) (.cons (Ed.pd e) .nil))
  | mend e => Pd.t (.cons (Pd.str _) (.cons (Ed.pd e) .nil))
  | putOff n => Pd.t (.cons (Pd.str _) (.cons (Pd.int n) .nil))
  | close => Pd.t (.cons (Pd.str _) .nil)
  | lay => Pd.t (.cons (Pd.str _) .nil)
  | rest => Pd.t (.cons (Pd.str _) .nil)
  | point s => Pd.t (.cons (Pd.str _) (.cons (Pd.str s) .nil))
theorem pk {n : Nat} : ∀ t : Td, pokn (n + 2) t.p
  | matter t => pokn_tuple (all_cons pokn_str (all_cons (pokn_list (all_map (fun _ => pokn_str) t)) all_nil))
  | change e => pokn_tuple (all_cons pokn_str (all_cons (Ed.pk e) all_nil))
  | mend e => pokn_tuple (all_cons pokn_str (all_cons (Ed.pk e) all_nil))
  | putOff n => pokn_tuple (all_cons pokn_str (all_cons pokn_int all_nil))
  | close => pokn_tuple (all_cons pokn_str all_nil)
  | lay => pokn_tuple (all_cons pokn_str all_nil)
  | rest => pokn_tuple (all_cons pokn_str all_nil)
  | point s => pokn_tuple (all_cons pokn_str (all_cons pokn_str all_nil))
end Td
/-- x tells the motion t: a matter's text is a tree or an object -/
def TdAt (om : Om) (x : D) : Td → Prop
  | .matter t => ∃ y, x = .tup [.str "matter", y] ∧ Lr om y (t.map .str)
  | t => x = t.d
theorem TdAt.d {om : Om} : ∀ t : Td, TdAt om t.d t
  | .matter t => ⟨_, rfl, Lr.im⟩
  | .change _ => rfl | .mend _ => rfl | .putOff _ => rfl | .close => rfl | .lay => rfl | .rest => rfl | .point _ => rfl
/-- a motion as it is kept -/
inductive Mt where
  | matter (f t : List Str) (ch : List Ed) | change (e : Ed) | mend (e : Ed) | putOff (n : Int) | close | lay | rest | point (s : Str)
deriving DecidableEq
/-- the classes of the motions -/
structure Ka where
  (M C E P O L R T : Addr)
def Td.mk : Td → Mt
  | .matter t => .matter t t [] | .change e => .change e | .mend e => .mend e | .putOff n => .putOff n | .close => .close | .lay => .lay | .rest => .rest | .point s => .point s
namespace Mt
def td : Mt → Td
  | matter _ t _ => .matter t | change e => .change e | mend e => .mend e | putOff n => .putOff n | close => .close | lay => .lay | rest => .rest | point s => .point s
theorem td_mk (t : Td) : t.mk.td = t := by cases t <;> rfl
def rank (m : Mt) : Int := m.td.rank
def need : Mt → Str
  | close => "two thirds"
  | _ => "more"
def cls (κ : Ka) : Mt → Addr
  | matter _ _ _ => κ.M | change _ => κ.C | mend _ => κ.E | putOff _ => κ.P | close => κ.O | lay => κ.L | rest => κ.R | point _ => κ.T
def fs (q : Addr) : Mt → List (Str × D)
  | matter f t _ => [("first", .lst (f.map .str)), ("text", .lst (t.map .str)), ("changes", .obj q)]
  | change e => [("edit", e.d)]
  | mend e => [("edit", e.d)]
  | putOff n => [("sitting", .int n)]
  | close => [] | lay => [] | rest => []
  | point s => [("clause", .str s)]
def chs : Mt → Option (List Ed)
  | matter _ _ ch => some ch
  | _ => none
/-- the motion m stands at a, the changes of a matter at q -/
structure At (κ : Ka) (om : Om) (a q : Addr) (m : Mt) : Prop where
  o : om a = some (.ins (m.cls κ) (m.fs q))
  c : ∀ ch, m.chs = some ch → om q = some (.lst (ch.map Ed.d))
theorem At.keep {κ : Ka} {om om' : Om} {a q : Addr} {m : Mt} (h : At κ om a q m) (k : ∀ b o, (b = a ∨ b = q) → om b = some o → om' b = some o) : At κ om' a q m := ⟨k _ _ (.inl rfl) h.o, fun ch e => k _ _ (.inr rfl) (h.c ch e)⟩
theorem At.ext {κ : Ka} {om om' : Om} {a q : Addr} {m : Mt} (h : At κ om a q m) (k : Ext om om') : At κ om' a q m := h.keep fun b o _ => k b o
def isMatter : Mt → Bool
  | matter _ _ _ => true
  | _ => false
def mendable : Mt → Bool
  | change (.cut _) => false
  | change _ => true
  | _ => false
end Mt
theorem Ext.refl {om : Om} : Ext om om := fun _ _ h => h
theorem Ext.trans {a b c : Om} (h : Ext a b) (k : Ext b c) : Ext a c := fun x o e => k x o (h x o e)
/-- a def that tells a constant; one that keeps its argument as a field -/
def G_const (d : D) : Fs := fun ds om Q _ => ∃ x, ds = [x] ∧ Q d om
def G_set1 (C : Addr) (f : Str) : Fs := fun ds om Q _ => ∃ a x, ds = [.obj a, x] ∧ om a = some (.ins C []) ∧ Q .non (ups om a (.ins C [(f, x)]))
def G_told1 (C : Addr) (k f : Str) : Fs := fun ds om Q _ => ∃ a x, ds = [.obj a] ∧ om a = some (.ins C [(f, x)]) ∧ Q (.tup [.str k, x]) om
/-- the tree of a tuple that bears a new list -/
theorem tupL_v {X : Cx} {ro : Ro} {om : Om} {e : Expr} {x : D} {ds : List D} (h : ∀ (R : RX) (Q : DK), (∀ p, om p = none → Q (.tup [x, .obj p]) (ups om p (.lst ds))) → we X R ro om e Q) : wv X ro om e (.tup [x, .lst ds]) := .mk fun R Q q => .mk fun om0 H0 t σ H o => by
  refine pE_mono (h R (fun d om1 => ∃ p, d = .tup [x, .obj p] ∧ om p = none ∧ om1 = ups om p (.lst ds)) (fun p hp => ⟨p, rfl, hp, rfl⟩) om0 H0 t σ H o) fun v H1 ⟨d, om1, ⟨p, e1, e2, e3⟩, o1, r⟩ => ?_
  subst e1 e3
  obtain ⟨o2, r2⟩ := o1.tree (om1 := om) ups_same
  rw [dels_ups e2] at o2 r2
  refine ⟨_, _, q, o2, ?_⟩
  obtain ⟨a, xs, ev, hx, u, r', exs, ru, w, r'', exs2, rw', hn⟩ := r
  have dl : dels (ups om p (.lst ds)) p = om := dels_ups e2
  have st : Stable (ups om p (.lst ds)) H1 om H1 := by
    have z := Stable.del (om := ups om p (.lst ds)) (H := H1) (a := p)
    rw [dl] at z
    exact z
  cases rw'
  refine ⟨a, xs, ev, ?_, u, r', exs, ru.mono st, _, r'', exs2, r2, hn⟩
  rcases hx with ⟨n1, h1⟩ | hk
  · exact .inl ⟨(st a _ h1 n1).2, h1⟩
  · exact .inr hk
end Mo

set_option Elab.async false
set_option linter.all false
set_option maxRecDepth 100000
set_option maxHeartbeats 4000000
set_option autoImplicit false
/-! Comprehensions over mapped lists; the laws' streams of numbers and their words. -/
namespace Mo
open PySem PySem.Spec PyProof.Rows L2
section
variable {X : Cx} {ro : Ro} {om : Om} {elt iter : Expr} {scope : Scope} {pos : Pos}
theorem n_lcM {α : Type} {xs : List α} {f g : α → D} {Pm : Om → Prop} {xn : Str} {p : Pos} (i : Nat) {N : List Str} {sc : Scope} (hN : X.N = N) (hsc : X.env.scope = sc) (nd : X.N.Nodup) (hc : X.calm = true) (hb : blkB N sc scope [(xn, i)] = true) (hl : (scope.names.lookup xn == some .local) = true)
    (hi : Itd X ro om (.Name xn p) iter (xs.map f) Pm) (hP : ∀ om', Ext om om' → Pm om') (hz : xs.length ≤ 100000)
    (he : ∀ (j : Nat) (x : α), xs[j]? = some x → ∀ (s : Shared) (H : Hp) (C : Addr) (cl : List (Str × Addr)) (fp : List Addr) (om' : Om), Ext om om' → wv (X.blk s H scope (compEnvC scope cl C X.env) fp) ((ro.set i none).set i (some (f x))) om' elt (g x)) (hs : ∀ x, foldedSetIterable iter X.env x = pure x := by intro _; rfl) :
    wn X ro om (.ListComp elt [⟨.Name xn p, iter, [], 0⟩] scope pos) (xs.map g) := by
  refine n_lc1 i hN hsc nd hc hb hl hi hP (by rw [List.length_map, List.length_map]) (by rw [List.length_map]; exact hz) (fun j d z hd hzz => ?_) hs
  obtain ⟨x, hx, rfl⟩ := map_item hd
  obtain ⟨x', hx', rfl⟩ := map_item hzz
  rw [hx] at hx'
  cases hx'
  exact he j x hx
theorem Lo.lcM {α : Type} {xs : List α} {f g : α → D} {Pm : Om → Prop} {xn yn : Str} {p pos' spos : Pos} {F : De} {rest : List Stmt} {k : Nat} (i : Nat) {N : List Str} {sc : Scope} (l : Lo X k yn) (hN : X.N = N) (hsc : X.env.scope = sc) (nd : X.N.Nodup) (hc : X.calm = true) (hb : blkB N sc scope [(xn, i)] = true) (hl : (scope.names.lookup xn == some .local) = true) (hy : (sc.names.lookup yn == some .local) = true)
    (hi : Itd X ro om (.Name xn p) iter (xs.map f) Pm) (hP : ∀ om', Ext om om' → Pm om') (hz : xs.length ≤ 100000)
    (he : ∀ (j : Nat) (x : α), xs[j]? = some x → ∀ (s : Shared) (H : Hp) (C : Addr) (cl : List (Str × Addr)) (fp : List Addr) (om' : Om), Ext om om' → wv (X.blk s H scope (compEnvC scope cl C X.env) fp) ((ro.set i none).set i (some (f x))) om' elt (g x))
    (hsw : swapsWith (.ListComp elt [⟨.Name xn p, iter, [], 0⟩] scope pos) (some (.Name yn pos')) spos.line X.env = pure true) (kk : ∀ q, om q = none → ws X F (ro.set k (some (.obj q))) (ups om q (.lst (xs.map g))) rest) (hs : ∀ x, foldedSetIterable iter X.env x = pure x := by intro _; rfl) :
    ws X F ro om (.Assign [.Name yn pos'] (.ListComp elt [⟨.Name xn p, iter, [], 0⟩] scope pos) spos :: rest) := by
  refine Lo.lc1 i l hN hsc nd hc hb hl hy hi hP (zs := xs.map g) (by rw [List.length_map, List.length_map]) (by rw [List.length_map]; exact hz) (fun j d z hd hzz => ?_) hsw kk hs
  obtain ⟨x, hx, rfl⟩ := map_item hd
  obtain ⟨x', hx', rfl⟩ := map_item hzz
  rw [hx] at hx'
  cases hx'
  exact he j x hx
end
section
variable {X : Cx} {ro : Ro} {om : Om} {F : De} {pos : Pos}
/-- the loop over a list that the iterable makes -/
theorem w_forE {tg iter : Expr} {body : List Stmt} {g : TG} {U : D → Ro → Ro}
    (h : we X F.ex ro om iter fun x om1 => ∃ (ds : List D) (I : Nat → Ro → Om → Prop), Lr om1 x ds ∧ I 0 ro om1 ∧ (∀ i ro' om', I i ro' om' → Lr om' x ds) ∧ (∀ d, d ∈ ds → Tg X tg d (U d) g) ∧
      (∀ (i : Nat) (d : D) (ro' : Ro) (om' : Om), ds[i]? = some d → I i ro' om' → ws X { F with nx := I (i + 1), ct := I (i + 1), bk := F.nx } (U d ro') om' body) ∧ ∀ ro' om', I ds.length ro' om' → F.nx ro' om')
    (hg : PG X tg g) (hp : PassesOwn (model X.prog X.w) X.A X.env X.xe) (hc : X.calm = true) (hfo : ∀ x, foldedSetIterable iter X.env x = pure x := by intro _; rfl) : w1 X F ro om (.For tg iter body [] pos) := .mk fun om0 H0 t σ H o => by
  refine pS_of (ps_for hp hc pI_pi hg pSs_ps hfo) ?_
  have hi : pI X tg iter σ H fun J H1 => ∃ (om1 : Om) (x : D) (ds : List D) (I : Nat → Ro → Om → Prop), Ok X.K om0 H0 om1 H1 σ ro ∧ JOk X.K om1 H1 J ds (fun om2 => Lr om2 x ds) ∧ I 0 ro om1 ∧ (∀ i ro' om', I i ro' om' → Lr om' x ds) ∧ (∀ d, d ∈ ds → Tg X tg d (U d) g) ∧
      (∀ (i : Nat) (d : D) (ro' : Ro) (om' : Om), ds[i]? = some d → I i ro' om' → ws X { F with nx := I (i + 1), ct := I (i + 1), bk := F.nx } (U d ro') om' body) ∧ ∀ ro' om', I ds.length ro' om' → F.nx ro' om' := by
    refine pI_of (pi_list pE_pe) (pE_mono (h om0 H0 t σ H o) fun v H1 ⟨x, om1, ⟨ds, I, l, h0, hP, hT, hs, hd⟩, o1, r⟩ => ?_)
    obtain ⟨p, xs, rfl, h1, r1⟩ := l.rep o1.store r
    refine ⟨p, rfl, ⟨xs, SqL.of h1⟩, om1, x, ds, I, o1, fun om2 H2 S2 s2 l2 => ?_, h0, hP, hT, hs, hd⟩
    obtain ⟨p', xs', e', h2, r2⟩ := l2.rep S2 (r.mono s2)
    cases e'
    refine ⟨fun i d hi => ?_, ⟨xs', SqL.of h2, Nat.le_of_eq r2.length.symm⟩⟩
    obtain ⟨u, h3, r3⟩ := r2.get hi
    refine ⟨⟨xs', u, SqL.of h2, h3⟩, fun x' H3 ⟨e3, y3⟩ => ?_⟩
    subst e3
    have := y3 xs' (SqL.of h2)
    rw [h3] at this
    cases this
    exact ⟨S2, Stable.refl, r3⟩
  refine fun pins s I' => wpAny_mono (hi pins s I') (fun v s1 h1 => thn h1 fun itv s2 ⟨it, fp, tn, J, H2, e2, I2, T2, st2, f2, om1, x, ds, I, o2, j2, h0, hP, hT, hs, hd⟩ => ?_) (fun _ _ x => x)
  refine ⟨it, fp, tn, J, H2, e2, I2, T2, st2, f2, fun i m σ' H' => m = ds.length - i ∧ i ≤ ds.length ∧ ∃ ro' om', I i ro' om' ∧ Ok X.K om0 H0 om' H' σ' ro' ∧ Stable om1 H2 om' H', ⟨ds.length, by simp, Nat.zero_le _, ro, om1, h0, o2, Stable.refl⟩, ?_⟩
  rintro i m σ3 H3 ⟨rfl, hle, ro3, om3, i3, o3, s3⟩
  obtain ⟨jg, js⟩ := j2 om3 H3 o3.store s3 (hP _ _ _ i3)
  by_cases hlt : i < ds.length
  · refine .inr ⟨(jg i ds[i] (List.getElem?_eq_getElem hlt)).1, fun σ' H' => ∃ ro' om', I (i + 1) ro' om' ∧ Ok X.K om0 H0 om' H' σ' ro' ∧ Stable om1 H2 om' H', fun σ' H' ⟨ro', om', q1, q2, q3⟩ => ⟨ds.length - (i + 1), by omega, rfl, hlt, ro', om', q1, q2, q3⟩, fun x' H4 y4 => ?_⟩
    obtain ⟨S4, s4, r4⟩ := (jg i ds[i] (List.getElem?_eq_getElem hlt)).2 x' H4 y4
    have o4 : Ok X.K om0 H0 om3 H4 σ3 ro3 := o3.to S4 s4
    refine hT ds[i] (List.getElem_mem hlt) om0 H0 om3 H4 σ3 ro3 x' _ o4 r4 fun σ5 o5 => ?_
    have hb := hs i ds[i] ro3 om3 (List.getElem?_eq_getElem hlt) i3 om3 H4 (t.at o5.stab) σ5 H4 ⟨o5.store, Stable.refl, o5.slot, o5.len⟩
    refine pSs_mono hb ⟨fun σ6 H6 ⟨ro6, om6, q6, o6⟩ => ⟨ro6, om6, q6, ⟨o6.store, o5.stab.trans o6.stab, o6.slot, o6.len⟩, (s3.trans s4).trans o6.stab⟩, fun v6 H6 ⟨d6, om6, q6, S6, s6, r6⟩ => ⟨d6, om6, q6, S6, o5.stab.trans s6, r6⟩,
      fun σ6 H6 ⟨ro6, om6, q6, o6⟩ => ⟨ro6, om6, q6, ⟨o6.store, o5.stab.trans o6.stab, o6.slot, o6.len⟩⟩, fun σ6 H6 ⟨ro6, om6, q6, o6⟩ => ⟨ro6, om6, q6, ⟨o6.store, o5.stab.trans o6.stab, o6.slot, o6.len⟩, (s3.trans s4).trans o6.stab⟩⟩
  · have ei : i = ds.length := by omega
    subst ei
    exact .inl ⟨js, ro3, om3, hd _ _ i3, o3⟩
/-- .. within a block -/
theorem st_forE {tg iter : Expr} {body : List Stmt} {g : TG} {U : D → Ro → Ro} {rest : List Stmt}
    (h : we X F.ex ro om iter fun x om1 => ∃ (ds : List D) (I : Nat → Ro → Om → Prop), Lr om1 x ds ∧ I 0 ro om1 ∧ (∀ i ro' om', I i ro' om' → Lr om' x ds) ∧ (∀ d, d ∈ ds → Tg X tg d (U d) g) ∧
      (∀ (i : Nat) (d : D) (ro' : Ro) (om' : Om), ds[i]? = some d → I i ro' om' → ws X { F with nx := I (i + 1), ct := I (i + 1), bk := fun ro' om' => ws X F ro' om' rest } (U d ro') om' body) ∧ ∀ ro' om', I ds.length ro' om' → ws X F ro' om' rest)
    (hg : PG X tg g) (hp : PassesOwn (model X.prog X.w) X.A X.env X.xe) (hc : X.calm = true) (hfo : ∀ x, foldedSetIterable iter X.env x = pure x := by intro _; rfl) : ws X F ro om (.For tg iter body [] pos :: rest) :=
  ws_cons (w_forE (F := { F with nx := fun ro' om' => ws X F ro' om' rest }) h hg hp hc hfo)
end
section
variable {X : Cx} {R : RX} {ro : Ro} {om : Om} {a b e : Expr} {es : List Expr} {pos : Pos} {F : De}
/-- and, or, of any effect, as tests -/
structure wbe (X : Cx) (R : RX) (ro : Ro) (om : Om) (op : BoolOp) (es : List Expr) (pos : Pos) (Q : Bool → Om → Prop) : Prop where
  go : ∀ (om0 : Om) (H0 : Hp), Tk X om0 H0 R → ∀ (σ : L2.St) (H : Hp), Ok X.K om0 H0 om H σ ro → pW X (.BoolOp op es pos) σ H fun k' H' => ∃ om', Q k' om' ∧ Ok X.K om0 H0 om' H' σ ro
theorem t_boolE {op : BoolOp} {Q : Bool → Om → Prop} (h : wbe X R ro om op es pos Q) : wt X R ro om (.BoolOp op es pos) Q := .mk fun om0 H0 t σ H o =>
  pT_of (PW.pt pW_pw) (pW_mono (h.go om0 H0 t σ H o) fun k' H' q => q)
theorem be_or1 {Q : Bool → Om → Prop} (h : wt X R ro om a Q) : wbe X R ro om .Or [a] pos Q := .mk fun om0 H0 t σ H o => pW_of (pw_or1 pT_pt) (h om0 H0 t σ H o)
theorem be_and1 {Q : Bool → Om → Prop} (h : wt X R ro om a Q) : wbe X R ro om .And [a] pos Q := .mk fun om0 H0 t σ H o => pW_of (pw_and1 pT_pt) (h om0 H0 t σ H o)
theorem be_or {Q : Bool → Om → Prop} (h : wt X R ro om a fun k om1 => (k = true → Q true om1) ∧ (k = false → wbe X R ro om1 .Or (b :: es) pos Q)) : wbe X R ro om .Or (a :: b :: es) pos Q := .mk fun om0 H0 t σ H o => by
  refine pW_of (pw_or pT_pt pW_pw) (pT_mono (h om0 H0 t σ H o) fun k H1 ⟨om1, ⟨h1, h2⟩, o1⟩ => ?_)
  cases k with
  | true => exact ⟨om1, h1 rfl, o1⟩
  | false => exact pW_mono ((h2 rfl).go om1 H1 (t.at o1.stab) σ H1 ⟨o1.store, Stable.refl, o1.slot, o1.len⟩) fun k' H' ⟨om2, q, o2⟩ => ⟨om2, q, o2.store, o1.stab.trans o2.stab, o2.slot, o2.len⟩
theorem be_and {Q : Bool → Om → Prop} (h : wt X R ro om a fun k om1 => (k = false → Q false om1) ∧ (k = true → wbe X R ro om1 .And (b :: es) pos Q)) : wbe X R ro om .And (a :: b :: es) pos Q := .mk fun om0 H0 t σ H o => by
  refine pW_of (pw_and pT_pt pW_pw) (pT_mono (h om0 H0 t σ H o) fun k H1 ⟨om1, ⟨h1, h2⟩, o1⟩ => ?_)
  cases k with
  | false => exact ⟨om1, h1 rfl, o1⟩
  | true => exact pW_mono ((h2 rfl).go om1 H1 (t.at o1.stab) σ H1 ⟨o1.store, Stable.refl, o1.slot, o1.len⟩) fun k' H' ⟨om2, q, o2⟩ => ⟨om2, q, o2.store, o1.stab.trans o2.stab, o2.slot, o2.len⟩
theorem t_notE {Q : Bool → Om → Prop} (h : wt X R ro om e fun k om1 => Q (!k) om1) : wt X R ro om (.UnaryOp .Not e pos) Q := .mk fun om0 H0 t σ H o => by
  refine pT_of (pt_not pT_pt) ?_
  exact pT_mono (h om0 H0 t σ H o) fun k' H1 ⟨om1, q, o1⟩ => ⟨om1, q, o1⟩
theorem st_ifE {c : Expr} {sa sb rest : List Stmt} (h : wt X F.ex ro om c fun k om' => (k = true → ws X { F with nx := fun ro' om' => ws X F ro' om' rest } ro om' sa) ∧ (k = false → ws X { F with nx := fun ro' om' => ws X F ro' om' rest } ro om' sb)) : ws X F ro om (.If c sa sb pos :: rest) := ws_cons (s_ifE h)
end
theorem ne_so {om : Om} {a b : Addr} {o : DO} (h : om a = some o) (k : om b = none) : a ≠ b := fun e => by subst e; rw [h] at k; cases k
/-! the numbers -/
def strm (c : Int) : Nat → Int
  | 0 => c % 4294967311 + 48271
  | k + 1 => (strm c k * strm c k + 69621 * strm c k + k) % 4294967311
theorem strm_succ {c : Int} {k : Nat} : strm c (k + 1) = (strm c k * strm c k + 69621 * strm c k + k) % 4294967311 := rfl
theorem strm_ge (c : Int) (k : Nat) : 0 ≤ strm c k := by
  cases k with
  | zero => show 0 ≤ c % 4294967311 + 48271; omega
  | succ k => rw [strm_succ]; omega
theorem strm_lt (c : Int) (k : Nat) : strm c k < 4295015582 := by
  cases k with
  | zero => show c % 4294967311 + 48271 < _; omega
  | succ k => rw [strm_succ]; omega
def streamA (c : Int) (n : Nat) : List Int := (List.range n).map fun k => strm c (k + 1)
def streamL (c : Int) (n : Nat) : List Int := (streamA c (n + 1)).drop 1
theorem streamA_succ (c : Int) (n : Nat) : streamA c (n + 1) = streamA c n ++ [strm c (n + 1)] := by
  unfold streamA
  rw [List.range_succ, List.map_append]
  rfl
theorem streamA_len (c : Int) (n : Nat) : (streamA c n).length = n := by unfold streamA; rw [List.length_map, List.length_range]
theorem streamL_len (c : Int) (n : Nat) : (streamL c n).length = n := by unfold streamL; rw [List.length_drop, streamA_len]; rfl
theorem streamL_at (c : Int) {n k : Nat} (h : k < n) : (streamL c n)[k]? = some (strm c (k + 2)) := by
  unfold streamL streamA
  rw [List.getElem?_drop, List.getElem?_map, List.getElem?_range (by omega), show 1 + k = k + 1 by omega]
  rfl
theorem streamL_bd {c : Int} {n : Nat} {z : Int} (h : z ∈ streamL c n) : 0 ≤ z ∧ z < 4295015582 := by
  unfold streamL streamA at h
  obtain ⟨k, _, rfl⟩ := List.mem_map.mp (List.mem_of_mem_drop h)
  exact ⟨strm_ge c _, strm_lt c _⟩
/-! the words -/
def sgB : Str := "!\"#$&'()*+,-./0123456789:;<=>?@ABCDEFGHIJKLMNOPQRSTUVWXYZ[\\]^_`abcdefghijklmnopqrstuvwxyz{|}~"
def sg2 (i : Int) : Nat := sgB.cps.toList.getD i.toNat 0
theorem sgB_len : sgB.cps.toList.length = 93 := by decide +kernel
theorem sg2_at {i : Int} (h0 : 0 ≤ i) (h1 : i < 93) : atI sgB.cps.toList i = some (sg2 i) := by
  have hl := sgB_len
  have e : i = (i.toNat : Int) := by omega
  have hi : i.toNat < sgB.cps.toList.length := by omega
  unfold sg2
  rw [e, Int.toNat_natCast, List.getD_eq_getElem?_getD, List.getElem?_eq_getElem hi]
  exact atI_nat (List.getElem?_eq_getElem hi)
theorem sgB_ok : sgB.cps.toList.all (fun c => decide (33 ≤ c ∧ c ≤ 126 ∧ c ≠ 37)) = true := by decide +kernel
theorem sg2_in (i : Int) (h0 : 0 ≤ i) (h1 : i < 93) : 33 ≤ sg2 i ∧ sg2 i ≤ 126 ∧ sg2 i ≠ 37 := by
  have hl := sgB_len
  have hi : i.toNat < sgB.cps.toList.length := by omega
  have := List.all_eq_true.mp sgB_ok (sgB.cps.toList[i.toNat]) (List.getElem_mem hi)
  unfold sg2
  rw [List.getD_eq_getElem?_getD, List.getElem?_eq_getElem hi]
  exact of_decide_eq_true this
def fewW : List Str := ["-", "put", "/a", "0", "off", "//", "matter", "a"]
def fewN (d : Int) : Str := fewW.getD (d / 4 % 8).toNat "-"
def sizeW (d : Int) : Int := 1 + d / 4 % (if d / 80 % 2 = 0 then 4 else 20)
def rawW (d : Int) : Str := Txt.join "" ((streamL (d / 160) (sizeW d).toNat).map fun z => chr1 (sg2 (z % 93)))
def wordB (d : Int) : Str := if d % 4 = 1 then fewN d else if rawW d = "/" then "-" else rawW d
theorem sizeW_bd (d : Int) : 1 ≤ sizeW d ∧ sizeW d ≤ 20 := by
  unfold sizeW
  split <;> omega
theorem joinL_one : ∀ cs : List Nat, TL.joinL [] (cs.map fun c => [c]) = cs
  | [] => rfl
  | [c] => rfl
  | c :: d :: r => by
    have ih := joinL_one (d :: r)
    rw [List.map_cons] at ih ⊢
    show [c] ++ [] ++ TL.joinL [] (List.map (fun c => [c]) (d :: r)) = _
    rw [joinL_one (d :: r)]
    rfl
theorem tl_raw (d : Int) : TL.tl (rawW d) = (streamL (d / 160) (sizeW d).toNat).map fun z => sg2 (z % 93) := by
  unfold rawW
  rw [TL.join_eq, TL.tl_join, tl_empty, List.map_map]
  have e : (TL.tl ∘ fun z : Int => chr1 (sg2 (z % 93))) = (fun c => [c]) ∘ fun z => sg2 (z % 93) := rfl
  rw [e, ← List.map_map, joinL_one]
theorem raw_len (d : Int) : (rawW d).length = (sizeW d).toNat := by rw [len_tl, tl_raw, List.length_map, streamL_len]
theorem IsWord.dash : IsWord "-" := ⟨by decide +kernel, by decide +kernel, by decide +kernel, by decide +kernel⟩
theorem wordB_ok (d : Int) : IsWord (wordB d) := by
  unfold wordB
  split
  · have h8 : ∀ j : Fin 8, (fewW.getD j.val "-").length ≥ 1 ∧ (fewW.getD j.val "-").length ≤ 20 ∧ (∀ c ∈ TL.tl (fewW.getD j.val "-"), 33 ≤ c ∧ c ≤ 126 ∧ c ≠ 37) ∧ fewW.getD j.val "-" ≠ "/" := by decide +kernel
    obtain ⟨h1, h2, h3, h4⟩ := h8 ⟨(d / 4 % 8).toNat, by omega⟩
    exact ⟨h1, h2, h3, h4⟩
  · split
    · exact IsWord.dash
    · rename_i hne
      have hb := sizeW_bd d
      refine ⟨by rw [raw_len]; omega, by rw [raw_len]; omega, fun c hc => ?_, hne⟩
      rw [tl_raw] at hc
      obtain ⟨z, _, rfl⟩ := List.mem_map.mp hc
      exact sg2_in _ (by omega) (by omega)
def clauseB (d : Int) : List Str := (streamL (d / 4) (d % 4).toNat).map wordB
theorem clauseB_ok (d : Int) : ∀ x ∈ clauseB d, IsWord x := fun x h => by
  obtain ⟨z, _, rfl⟩ := List.mem_map.mp h
  exact wordB_ok z
theorem words_sum {ws : List Str} (h : ∀ x ∈ ws, IsWord x) : (ws.map (·.length)).sum + ws.length ≤ ws.length * 21 := by
  have := sum_le (f := fun s : Str => s.length) (m := 20) (l := ws) fun x hx => (h x hx).hi
  omega
end Mo

set_option Elab.async false
set_option linter.all false
set_option maxRecDepth 100000
set_option maxHeartbeats 4000000
set_option autoImplicit false
/-! Comprehensions whose elements make objects; joins of ways; list.index. -/
namespace Mo
open PySem PySem.Spec PyProof.Rows L2
theorem Ext.del {om om' : Om} (h : Ext om om') (a : Addr) : Ext (dels om a) (dels om' a) := fun b o e => by
  by_cases z : b = a
  · subst z; rw [dels_same] at e; cases e
  · rw [dels_ne z] at e ⊢
    exact h b o e
theorem Ext.of_del {om : Om} {a : Addr} : Ext (dels om a) om := fun b o e => by
  by_cases z : b = a
  · subst z; rw [dels_same] at e; cases e
  · rw [dels_ne z] at e
    exact e
theorem dels_ups2 {om : Om} {a : Addr} {o : DO} : dels (ups om a o) a = dels om a := by
  funext b
  by_cases z : b = a
  · subst z; rw [dels_same, dels_same]
  · rw [dels_ne z, dels_ne z, ups_ne z]
section
variable {X : Cx} {R : RX} {F : De} {ro : Ro} {om : Om} {elt iter : Expr} {scope : Scope} {pos : Pos}
theorem lc_rdE {ds : List D} {Pm : Om → Prop} {xn : Str} {p : Pos} (i : Nat) (Iv : Nat → List D → Om → Prop) (hi : Itd X ro om (.Name xn p) iter ds Pm) (hP : ∀ om', Ext om om' → Pm om') (hz : ds.length ≤ 100000) (h0 : Iv 0 [] om)
    (he : ∀ (j : Nat) (d : D) (zs : List D) (om' : Om) (Dl : Addr), ds[j]? = some d → zs.length = j → om Dl = none → om' Dl = some (.lst zs) → Ext om om' → Iv j zs (dels om' Dl) →
      ∀ (s : Shared) (H : Hp) (C : Addr) (cl : List (Str × Addr)) (fp : List Addr), we (X.blk s H scope (compEnvC scope cl C X.env) fp) (fun _ _ _ _ => False) ((ro.set i none).set i (some d)) om' elt fun z om'' => Ext om' om'' ∧ Iv (j + 1) (zs ++ [z]) (dels om'' Dl))
    {om0 : Om} {H0 : Hp} (t : Tk X om0 H0 R) {σ : L2.St} {H : Hp} (o : Ok X.K om0 H0 om H σ ro) {Qv : VK} (q : ∀ Dl zs om' H', om Dl = none → om' Dl = some (.lst zs) → zs.length = ds.length → Ext om om' → Iv ds.length zs (dels om' Dl) → Ok X.K om0 H0 om' H' σ ro → Qv (.ref Dl) H') :
    tLc (pI X (.Name xn p) iter) (gName i) tYes (fun σ2 H2 Q2 => ∀ s H C cl fp, pE (X.blk s H scope (compEnvC scope cl C X.env) fp) elt σ2 H2 Q2) ([(xn, i)].map (·.2)) σ H Qv := by
  refine fun pins s I => wpAny_mono (hi R om0 H0 t σ H o pins s I) (fun v s1 h1 => thn h1 fun itv s2 ⟨it, fp, tn, J, H2, e2, I2, T2, st2, f2, o2, j2⟩ => ?_) (fun _ _ x => x)
  refine ⟨it, fp, tn, J, H2, e2, I2, T2, st2, f2, fun Dl hD => ?_⟩
  have hDo : om Dl = none := o2.store.fresh hD
  have d0 : dels (ups om Dl (.lst [])) Dl = om := dels_ups hDo
  refine ⟨fun k m H' => m = ds.length - k ∧ k ≤ ds.length ∧ ∃ zs om', zs.length = k ∧ om' Dl = some (.lst zs) ∧ Ext om om' ∧ Iv k zs (dels om' Dl) ∧ Ok X.K om0 H0 om' H' σ ro ∧ Stable om H2 om' H',
    ⟨ds.length, by simp, Nat.zero_le _, [], ups om Dl (.lst []), rfl, ups_same, Ext.ups hDo, by rw [d0]; exact h0, o2.newl hD rfl, Stable.mk hD⟩, ?_⟩
  rintro k m H3 ⟨rfl, hle, zs, om', hzl, hom, hex, hiv, o3, s3⟩
  have j3 := j2 om' H3 o3.store s3 (hP _ hex)
  by_cases hlt : k < ds.length
  · refine .inr ⟨(j3.1 k ds[k] (List.getElem?_eq_getElem hlt)).1, fun H' => ∃ zs om', zs.length = k + 1 ∧ om' Dl = some (.lst zs) ∧ Ext om om' ∧ Iv (k + 1) zs (dels om' Dl) ∧ Ok X.K om0 H0 om' H' σ ro ∧ Stable om H2 om' H',
      fun H' ⟨zs', om'', q1, q2, q3, q4, q5, q6⟩ => ⟨ds.length - (k + 1), by omega, rfl, hlt, zs', om'', q1, q2, q3, q4, q5, q6⟩, fun x' H4 y4 => ?_⟩
    obtain ⟨S4, s4, r4⟩ := (j3.1 k ds[k] (List.getElem?_eq_getElem hlt)).2 x' H4 y4
    have o4 := o3.to S4 s4
    refine lc_hU (xn := xn) σ x' H4 _ (tg_name i (X := X) (tg := .Name xn p) om0 H0 om' H4 (L2.wipe σ ([(xn, i)].map (·.2))) (wipeD ro ([(xn, i)].map (·.2))) x' _ (o4.wipe _) r4 fun σ5 o5 => ?_)
    unfold tYes
    simp only [if_true]
    intro s' H' C cl fp'
    have we5 := he k ds[k] zs om' Dl (List.getElem?_eq_getElem hlt) hzl hDo hom hex hiv s' H' C cl fp'
    refine pE_mono (we5 om' H4 Tk.no σ5 H4 ⟨o5.store, Stable.refl, o5.slot, o5.len⟩) fun v6 H6 ⟨d6, om6, ⟨x6, iv6⟩, o6, r6⟩ => ?_
    have hom6 : om6 Dl = some (.lst zs) := x6 _ _ hom
    obtain ⟨xs6, hx6, rD6⟩ := o6.store Dl _ hom6
    have St6 : Stable om6 H6 (ups om6 Dl (.lst (zs ++ [d6]))) (upd H6 Dl (.lst (xs6 ++ [v6]))) := Stable.put hom6
    have So6 : StoreOk X.K (ups om6 Dl (.lst (zs ++ [d6]))) (upd H6 Dl (.lst (xs6 ++ [v6]))) := o6.store.put hom6 ⟨_, upd_same, (rD6.app (RepL.one r6)).mono St6⟩
    refine ⟨xs6, hx6, ?_, zs ++ [d6], ups om6 Dl (.lst (zs ++ [d6])), by simp [hzl], ups_same, fun b o e => ?_, ?_, (o4.to o6.store o6.stab).to So6 St6, ((s3.trans s4).trans o6.stab).trans St6⟩
    · rw [← rD6.length, hzl]
      have : sizeLine = 16777216 := sizeLine_eq
      omega
    · rw [ups_ne (ne_so e hDo)]
      exact x6 _ _ (hex _ _ e)
    · rw [dels_ups2]
      exact iv6
  · have ei : k = ds.length := by omega
    subst ei
    exact .inl ⟨j3.2, q Dl zs om' _ hDo hom hzl hex hiv o3⟩
/-- .. the elements of any effect that keeps what was there -/
theorem e_lcE {Q : DK} {ds : List D} {Pm : Om → Prop} {xn : Str} {p : Pos} (i : Nat) {N : List Str} {sc : Scope} (hN : X.N = N) (hsc : X.env.scope = sc) (nd : X.N.Nodup) (hc : X.calm = true) (hb : blkB N sc scope [(xn, i)] = true) (hl : (scope.names.lookup xn == some .local) = true)
    (Iv : Nat → List D → Om → Prop) (hi : Itd X ro om (.Name xn p) iter ds Pm) (hP : ∀ om', Ext om om' → Pm om') (hz : ds.length ≤ 100000) (h0 : Iv 0 [] om)
    (he : ∀ (j : Nat) (d : D) (zs : List D) (om' : Om) (Dl : Addr), ds[j]? = some d → zs.length = j → om Dl = none → om' Dl = some (.lst zs) → Ext om om' → Iv j zs (dels om' Dl) →
      ∀ (s : Shared) (H : Hp) (C : Addr) (cl : List (Str × Addr)) (fp : List Addr), we (X.blk s H scope (compEnvC scope cl C X.env) fp) (fun _ _ _ _ => False) ((ro.set i none).set i (some d)) om' elt fun z om'' => Ext om' om'' ∧ Iv (j + 1) (zs ++ [z]) (dels om'' Dl))
    (q : ∀ Dl zs om', om Dl = none → om' Dl = some (.lst zs) → zs.length = ds.length → Ext om om' → Iv ds.length zs (dels om' Dl) → Q (.obj Dl) om') (hs : ∀ x, foldedSetIterable iter X.env x = pure x := by intro _; rfl) : we X R ro om (.ListComp elt [⟨.Name xn p, iter, [], 0⟩] scope pos) Q := .mk fun om0 H0 t σ H o => by
  have ok : BlkOk X.N X.env.scope scope [(xn, i)] := blk_ok hN hsc hb
  exact pE_of (pe_lc hc nd pI_pi ok (lc_hg nd (ok.ix (xn, i) List.mem_cons_self) hl) (fun _ _ _ _ _ => pts_nil) (fun s H C cl fp => ⟨fun pins s' σ' H' Q' I h => h s H C cl fp pins s' I⟩) hs)
    (lc_rdE i Iv hi hP hz h0 he t o fun Dl zs om' H' h1 h2 h3 h4 h5 o' => ⟨_, _, q Dl zs om' h1 h2 h3 h4 h5, o', rfl⟩)
/-- name = [.. for ..], such -/
theorem Lo.lcE {rest : List Stmt} {ds : List D} {Pm : Om → Prop} {xn yn : Str} {p pos' spos : Pos} {k : Nat} (i : Nat) {N : List Str} {sc : Scope} (l : Lo X k yn) (hN : X.N = N) (hsc : X.env.scope = sc) (nd : X.N.Nodup) (hc : X.calm = true) (hb : blkB N sc scope [(xn, i)] = true) (hl : (scope.names.lookup xn == some .local) = true) (hy : (sc.names.lookup yn == some .local) = true)
    (Iv : Nat → List D → Om → Prop) (hi : Itd X ro om (.Name xn p) iter ds Pm) (hP : ∀ om', Ext om om' → Pm om') (hz : ds.length ≤ 100000) (h0 : Iv 0 [] om)
    (he : ∀ (j : Nat) (d : D) (zs : List D) (om' : Om) (Dl : Addr), ds[j]? = some d → zs.length = j → om Dl = none → om' Dl = some (.lst zs) → Ext om om' → Iv j zs (dels om' Dl) →
      ∀ (s : Shared) (H : Hp) (C : Addr) (cl : List (Str × Addr)) (fp : List Addr), we (X.blk s H scope (compEnvC scope cl C X.env) fp) (fun _ _ _ _ => False) ((ro.set i none).set i (some d)) om' elt fun z om'' => Ext om' om'' ∧ Iv (j + 1) (zs ++ [z]) (dels om'' Dl))
    (hsw : swapsWith (.ListComp elt [⟨.Name xn p, iter, [], 0⟩] scope pos) (some (.Name yn pos')) spos.line X.env = pure true)
    (kk : ∀ Dl zs om', om Dl = none → om' Dl = some (.lst zs) → zs.length = ds.length → Ext om om' → Iv ds.length zs (dels om' Dl) → ws X F (ro.set k (some (.obj Dl))) om' rest) (hs : ∀ x, foldedSetIterable iter X.env x = pure x := by intro _; rfl) :
    ws X F ro om (.Assign [.Name yn pos'] (.ListComp elt [⟨.Name xn p, iter, [], 0⟩] scope pos) spos :: rest) := ws_cons <| .mk fun om0 H0 t σ H o => by
  have ok : BlkOk X.N X.env.scope scope [(xn, i)] := blk_ok hN hsc hb
  exact pS_of (ps_setLc hc nd l.at_ (by rw [hsc]; exact beq_iff_eq.mp hy) hsw pI_pi ok (lc_hg nd (ok.ix (xn, i) List.mem_cons_self) hl) (fun _ _ _ _ _ => pts_nil) (fun s H C cl fp => ⟨fun pins s' σ' H' Q' I h => h s H C cl fp pins s' I⟩) hs)
    (lc_rdE i Iv hi hP hz h0 he t o fun Dl zs om' H' h1 h2 h3 h4 h5 o' => ⟨_, _, kk Dl zs om' h1 h2 h3 h4 h5, o'.set k rfl⟩)
/-- a statement, what holds behind it, the rest -/
theorem ws_seq {st : Stmt} {rest : List Stmt} (I : Ro → Om → Prop) (h : w1 X { F with nx := I } ro om st) (k : ∀ ro' om', I ro' om' → ws X F ro' om' rest) : ws X F ro om (st :: rest) :=
  ws_cons (w1_mono h ⟨fun ro om q => k ro om q, fun _ _ q => q, fun _ _ q => q, fun _ _ q => q, fun _ _ _ _ q => q⟩)
/-- x.index(s), among texts -/
theorem v_index {o e : Expr} {x : D} {ss : List Str} {j : Nat} {s : Str} {apos cpos : Pos} (h : wv X ro om o x) (l : Lr om x (ss.map .str)) (k : wv X ro om e (.str s)) (hj : ss[j]? = some s) (hn : ∀ m, m < j → ss[m]? ≠ some s) (hbase : attributeBase o "index" X.env (eval o X.env) = eval o X.env := by rfl)
    (hfew : ((backTo cpos (starEach [e] X.env)).all (fun x => !x.1) && (backToKw cpos (keywordEach [] X.env)).all (fun x => x.1.isSome) && decide ([e].length + ([] : List Keyword).length + (if ([] : List Keyword).isEmpty then 0 else 1) < 30)) = true := by rfl)
    (hline : (apos.endLine == cpos.line) = true := by rfl) (hs : starEach [e] X.env = (false, eval e X.env) :: starEach [] X.env := by rfl) (hplain : (backTo cpos (starEach [] X.env)).any (·.1) = false := by rfl) :
    wv X ro om (.Call (.Attribute o "index" apos) [e] [] cpos) (.int j) := .mk fun R Q q =>
  e_bm PySem.F.plainAttrs_list PySem.F.slot_list_index PySem.F.type_list_index (h R _ ⟨.lst l, a_cons (k R _ (a_nil fun om0 H0 σ ro H v vs o r rv => by
    obtain ⟨u, rfl, ru⟩ := one_rep rv
    cases ru
    obtain ⟨p, xs, rfl, h1, r1⟩ := l.rep o.store r
    cases r1.strs
    refine wM_of mt_index ⟨p, _, .str s, j, .str s, rfl, rfl, SqL.of h1, rfl, ?_, ?_, ?_, ?_, _, _, q, o, rfl⟩
    · rw [List.all_map]
      exact List.all_eq_true.mpr fun _ _ => rfl
    · rw [List.getElem?_map, hj]; rfl
    · show (s == s) = true
      exact beq_self_eq_true s
    · intro m z hm hz
      obtain ⟨t, ht, rfl⟩ := map_item hz
      show (t == s) = false
      refine beq_eq_false_iff_ne.mpr fun e => hn m hm ?_
      rw [ht, e])) hs⟩) hbase hfew hline hs hplain
end
end Mo

set_option Elab.async false
set_option linter.all false
set_option maxRecDepth 100000
set_option maxHeartbeats 4000000
set_option autoImplicit false
/-! enumerate over a list, over a tuple; constants of the module that are tuples of texts. -/
namespace Mo
open PySem PySem.Spec PyProof.Rows L2
theorem meets_enumB1 {v : Value} {o : Obj} {H : Heap → Prop} (B : Begins v o H) :
    Meets (Builtin.«enumerate.__new__» ⟨[.type "enumerate", v], []⟩) (fun _ R s => H s.heap ∧
      R (.ok (.ret (.ref (s.heap.push o).objs.size))) { s with heap := (s.heap.push o).push { cls := .type "enumerate", data := .fields #[.none, .bool false, .ref s.heap.objs.size, rawInt 0, .none, .none] } }) :=
  .of_wp fun prog w A R s h => by
    obtain ⟨hp, g, d, tk, os⟩ := s; obtain ⟨h1, h⟩ := h
    have hsub := sub_enumerate
    have q1 : ∀ {A' : Around} {E : Value → Shared → Prop} {Q : Value → Shared → Prop}, Q (.ref hp.objs.size) ⟨hp.push o, g, d, tk, os⟩ → wpAny (model prog w) A' (pyIter v) Q E ⟨hp, g, d, tk, os⟩ :=
      fun q => B.iter prog w _ _ ⟨hp, g, d, tk, os⟩ _ h1 q
    wp_walk using q1
    refine wpAny_stack_any fun st => wpAny_pure ?_
    split
    · rename_i c _ _ _ _ _
      cases (c == Value.type "enumerate")
      · wp_walk using q1
        exact ⟨_, rfl, h⟩
      · wp_walk using q1
        exact ⟨_, rfl, h⟩
    · wp_walk using q1
      exact ⟨_, rfl, h⟩
section
variable {prog : Program} {w : World} {A : Around} {E : Value → Shared → Prop} {s : Shared}
theorem enum_beginsB1 {v : Value} {o : Obj} {H : Heap → Prop} {Q : Value → Shared → Prop} (B : Begins v o H) (h1 : H s.heap)
    (h : ∀ h', IsEnum h' (s.heap.objs.size + 1) s.heap.objs.size 0 .none → h'.get? s.heap.objs.size = some o → h'.objs.size = s.heap.objs.size + 2 →
      (∀ b o, s.heap.get? b = some o → h'.get? b = some o) → Q (.ref (s.heap.objs.size + 1)) { s with heap := h' }) :
    wpAny (model prog w) A (call (.type "enumerate") [v]) Q E s := by
  refine callType_new F.called_enumerate (by decide) (F.typeCall_enumerate_1 _) (F.newCall_enumerate_1 _) (fun obj => F.args_object_init_2 obj _) F.entry_enumerate_new
    (meets_enumB1 B) ⟨h1, ?_⟩
  have hz : (s.heap.push o).objs.size = s.heap.objs.size + 1 := Heap.size_push ..
  show _ ∧ _
  rw [hz]
  have he : IsEnum ((s.heap.push o).push { cls := .type "enumerate", data := .fields #[.none, .bool false, .ref s.heap.objs.size, rawInt 0, .none, .none] }) (s.heap.objs.size + 1) s.heap.objs.size 0 .none := by
    have := Heap.get?_push_size (s.heap.push o) (o := { cls := .type "enumerate", data := .fields #[.none, .bool false, .ref s.heap.objs.size, rawInt 0, .none, .none] }) rfl
    rw [hz] at this; exact this
  refine ⟨⟨_, he, rfl⟩, h _ he (Heap.get?_push_of_some _ (Heap.get?_push_size _ B.free)) (by rw [Heap.size_push, hz]) fun b o x => Heap.get?_push_of_some _ (Heap.get?_push_of_some _ x)⟩
end
/-- the tuple at a as it stands at each turn, each item in a new pair -/
def ItEt (K : PySem.W.Frag) (a : Addr) : It :=
  ⟨fun i H => ∃ (xs : List V) (x : V), SqT K H a xs ∧ xs[i]? = some x, fun i H v H' => ∃ T x, v = .ref T ∧ H T = none ∧ H' = upd H T (.tup [.int (i : Nat), x]) ∧ ∀ xs, SqT K H a xs → xs[i]? = some x, fun i H => ∃ xs : List V, SqT K H a xs ∧ xs.length = i⟩
theorem turn_enumT {P : Program} {w : World} {K : PySem.W.Frag} {elts : List Expr} {kk : Nat} {tpos : Pos} (a e it : Addr) :
    Turn P w K (.Tuple elts kk tpos) (ItEt K a) [e, it] e (fun i h => (∃ old, IsEnum h e it ((i : Nat) : Int) old) ∧ h.IsTupleIter it a i ∧ e ≠ it) where
  mem := by simp
  obj := fun i h st b hb => by
    obtain ⟨⟨old, he⟩, ⟨o, ho, hc, hd⟩, _⟩ := st
    have e' : b = e ∨ b = it := by simpa using hb
    rcases e' with z | z
    · rw [z]; exact ⟨_, he, fun v q => nomatch q⟩
    · rw [z]; exact ⟨o, ho, fun v q => by rw [hd] at q; cases q⟩
  keep := fun i h h' st k => let ⟨⟨old, he⟩, hi, hne⟩ := st; ⟨⟨old, k e (by simp) _ he⟩, hi.at fun o q => k it (by simp) o q, hne⟩
  item := by
    intro X hP hw hK hc i pins s σ H E I hf st hg
    subst hP hw hK
    obtain ⟨⟨old, he⟩, hit, hne⟩ := st
    obtain ⟨xs, x, hq, hx⟩ := hg
    obtain ⟨its, rv, p, hz⟩ := I.tuple hq
    obtain ⟨u, hu, ru⟩ := rv.get hx
    have hel : e < s.heap.objs.size := Heap.lt_size he
    have hil : it < s.heap.objs.size := by obtain ⟨_, q, _⟩ := hit; exact Heap.lt_size q
    have hat : s.heap.IsTuple a its.toArray := p
    have ha : a ≠ it := fun z => by
      obtain ⟨o1, h1, c1, d1⟩ := hit
      obtain ⟨o2, h2, c2, _⟩ := hat
      rw [z, h1] at h2
      cases h2
      rw [c1] at c2
      exact absurd (Value.type.inj c2) (by decide)
    have hae : e ∉ [it, a] := fun z => by
      simp only [List.mem_cons, List.not_mem_nil, or_false] at z
      rcases z with z | z
      · exact hne z
      · obtain ⟨o2, h2, c2, _⟩ := hat
        rw [← z, he] at h2
        cases h2
        exact absurd (Value.type.inj c2) (by decide)
    refine wpAny_pyNext_enum_itemD (Draws.tuple (A := X.A.in1) (I.ok.hd hc) it a ha its.toArray) he ⟨hit, hat⟩ (by
      have := (List.getElem?_eq_some_iff.mp hu).1
      simpa using this) hne hae fun x' h' tk hx' ho hst hT hsz hk => ?_
    have ex : x' = u := by
      have : its.toArray[i]? = some x' := hx'
      simp at this
      rw [hu] at this
      exact (Option.some.inj this).symm
    subst ex
    refine ⟨_, rfl, wpAny_letOwnedTupleGo_enum (s := { s with heap := h', toks := tk + 1 }) ho fun h'' he' sb => ?_⟩
    have hT2 : h''.get? s.heap.objs.size = some { cls := .type "tuple", data := .seq #[.int i tk, x'] } := (sb.2 _ (Nat.ne_of_gt hel)).trans hT
    have new : ObjOk X.prog X.w (upd H s.heap.objs.size (.tup [.int (i : Nat), x])) h'' s.heap.objs.size (.tup [.int (i : Nat), x]) :=
      ⟨by show 2 ≤ sizeLine; decide, [.int i tk, x'], .cons ⟨_, rfl⟩ (.cons ru .nil), ⟨_, hT2, rfl, _, rfl⟩⟩
    have I1 : Inv X pins σ (upd H s.heap.objs.size (.tup [.int (i : Nat), x])) { s with heap := h'', toks := tk + 1 } :=
      I.turnedNew (ch := [e, it]) (fun b ob hb q => (sb.2 b (fun z => hb (by simp [z]))).trans (hk b ob (fun z => hb (by simp [z])) (fun z => hb (by simp [z])) q)) hf (Nat.le_refl _) new
    refine ⟨.ref s.heap.objs.size, _, I1, rfl, ⟨_, x, rfl, I.hok.fresh (Nat.le_refl _), rfl, fun ys hy => by rw [I.tuple_inj hy hq]; exact hx⟩, ⟨⟨x', ?_⟩, hst.1.at fun o q => (sb.2 it (Ne.symm hne)).trans q, hne⟩, fun b hb => ?_⟩
    · have e1 : ((i + 1 : Nat) : Int) = (i : Int) + 1 := by omega
      rw [e1]; exact he'
    · have hb' : b < s.heap.objs.size := by
        have e' : b = e ∨ b = it := by simpa using hb
        rcases e' with z | z
        · rw [z]; exact hel
        · rw [z]; exact hil
      rw [upd_ne (Nat.ne_of_lt hb')]
      exact (hf b hb).1
  done := by
    intro X hP hw hK hc i pins s σ H E I hf st hg
    subst hP hw hK
    obtain ⟨⟨old, he⟩, hit, hne⟩ := st
    obtain ⟨xs, hq, hx⟩ := hg
    obtain ⟨its, rv, p, hz⟩ := I.tuple hq
    obtain ⟨f0, f1, f2, f3, f4, f5⟩ := hf it (by simp)
    have hl := rv.length
    have hat : s.heap.IsTuple a its.toArray := p
    have ha : a ≠ it := fun z => by
      obtain ⟨o1, h1, c1, d1⟩ := hit
      obtain ⟨o2, h2, c2, _⟩ := hat
      rw [z, h1] at h2
      cases h2
      rw [c1] at c2
      exact absurd (Value.type.inj c2) (by decide)
    have hin : i = its.toArray.size := by rw [List.size_toArray]; omega
    subst hin
    exact wpAny_pyNext_enum_endD (Draws.tuple (A := X.A.in1) (I.ok.hd hc) it a ha its.toArray) he ⟨hit, hat⟩ fun h' eb => ⟨rfl, I.turned (t' := s.toks) (fun b o hb q => eb b o hb q) f0 f1 f3 f4 f5⟩
  self := fun A i s Q E st h => let ⟨⟨_, he⟩, _⟩ := st; wpAny_pyIter_enum he h
def iEnumT (K : PySem.W.Frag) (ta : TA) : TI := fun σ H R => ta σ H fun vs H1 => ∃ a xs, vs = [.ref a] ∧ SqT K H1 a xs ∧ R (ItEt K a) H1
theorem pi_enumT {X : Cx} {e : Expr} {ta : TA} {p pos tpos : Pos} {elts : List Expr} {kk : Nat} (hg : Gl X "enumerate") (hm : X.mg "enumerate" = none) (ha : PA X [e] ta) (hs : starEach [e] X.env = [(false, eval e X.env)]) :
    PI X (.Tuple elts kk tpos) (.Call (.Name "enumerate" p) [e] [] pos) (iEnumT X.K ta) := by
  refine ⟨fun pins s σ H R I h => ?_⟩
  refine Call_ (ld_blt I hg hm boot_enumerate (PyProof.Rows.callWith_type1 (thn (ha.run pos pins s σ H _ I h) fun us s1 ⟨vs, H1, I1, r1, q1⟩ => ?_) hs rfl))
  obtain ⟨a, xs, ex, hq, q⟩ := q1
  subst ex
  cases r1 with
  | cons r rr =>
    cases rr
    cases r
    obtain ⟨its, rv, p', hz⟩ := I1.tuple hq
    have hat : s1.heap.IsTuple a its.toArray := p'
    refine enum_beginsB1 (begins_tuple a its.toArray) hat fun h' he hit hsz hk => wpAny_pyIter_enum he ?_
    have I2 : Inv X pins σ H1 { s1 with heap := h' } := I1.kept (t' := s1.toks) hk
    refine ⟨s1.heap.objs.size + 1, [s1.heap.objs.size + 1, s1.heap.objs.size], _, _, H1, rfl, I2, turn_enumT a (s1.heap.objs.size + 1) s1.heap.objs.size, ⟨⟨.none, he⟩, ⟨_, hit, rfl, rfl⟩, Nat.succ_ne_self _⟩, fun b hb => ?_, q⟩
    have e' : b = s1.heap.objs.size + 1 ∨ b = s1.heap.objs.size := by simpa using hb
    have hle : s1.heap.objs.size ≤ b := by
      rcases e' with z | z
      · rw [z]; exact Nat.le_add_right _ _
      · rw [z]; exact Nat.le_refl _
    exact I1.fpOk hle (I1.hok.fresh hle)
section
variable {X : Cx} {ro : Ro} {om : Om} {e : Expr} {x : D}
/-- enumerate over a list -/
theorem it_en {ds : List D} {Pm : Om → Prop} {p pos tpos : Pos} {elts : List Expr} {kk : Nat} (h : wv X ro om e x) (l : Lr om x ds) (hg : Gl X "enumerate") (hm : X.mg "enumerate" = none) (hs : starEach [e] X.env = [(false, eval e X.env)]) :
    Itd X ro om (.Tuple elts kk tpos) (.Call (.Name "enumerate" p) [e] [] pos) ((List.range ds.length).map fun i : Nat => .tup [.int (i : Int), ds.getD i .non]) (fun om2 => Lr om2 x ds) := fun R om0 H0 t σ H o => by
  refine pI_of (pi_enum hg hm pA_pa hs) ?_
  have ha : wav X ro om [e] [x] := av_cons h av_nil hs
  refine pA_mono (ha R (fun ds' om' => ds' = [x] ∧ om' = om) ⟨rfl, rfl⟩ om0 H0 t σ H o) fun vs H1 ⟨ds', om1, ⟨e1, e2⟩, o1, r⟩ => ?_
  subst e1 e2
  obtain ⟨v, rfl, rx⟩ := one_rep r
  obtain ⟨a, xs, rfl, h1, r1⟩ := l.rep o1.store rx
  refine ⟨a, xs, rfl, SqL.of h1, o1, fun om2 H2 S2 s2 l2 => ?_⟩
  obtain ⟨a', xs', e', h2, r2⟩ := l2.rep S2 (rx.mono s2)
  cases e'
  refine ⟨fun i d hi => ?_, ?_⟩
  · obtain ⟨hlt, rfl⟩ := rng_item hi
    have hd : ds[i]? = some (ds.getD i .non) := by rw [List.getD_eq_getElem?_getD, List.getElem?_eq_getElem hlt]; rfl
    obtain ⟨u, h3, r3⟩ := r2.get hd
    refine ⟨⟨xs', u, SqL.of h2, h3⟩, fun x' H3 ⟨T, y, e3, hT, e4, hy⟩ => ?_⟩
    subst e3 e4
    have h5 := hy xs' (SqL.of h2)
    rw [h3] at h5
    cases h5
    refine ⟨S2.new hT, Stable.new hT, ?_⟩
    exact new_tup S2 hT ⟨_, _, rfl, rfl, _, _, rfl, r3, rfl⟩
  · refine ⟨xs', SqL.of h2, ?_⟩
    rw [List.length_map, List.length_range, r2.length]
    exact Nat.le_refl _
/-- enumerate over a tuple -/
theorem it_enT {ds : List D} {p pos tpos : Pos} {elts : List Expr} {kk : Nat} (h : wv X ro om e (.tup ds)) (hg : Gl X "enumerate") (hm : X.mg "enumerate" = none) (hs : starEach [e] X.env = [(false, eval e X.env)]) :
    Itd X ro om (.Tuple elts kk tpos) (.Call (.Name "enumerate" p) [e] [] pos) ((List.range ds.length).map fun i : Nat => .tup [.int (i : Int), ds.getD i .non]) (fun _ => True) := fun R om0 H0 t σ H o => by
  refine pI_of (pi_enumT hg hm pA_pa hs) ?_
  have ha : wav X ro om [e] [.tup ds] := av_cons h av_nil hs
  refine pA_mono (ha R (fun ds' om' => ds' = [.tup ds] ∧ om' = om) ⟨rfl, rfl⟩ om0 H0 t σ H o) fun vs H1 ⟨ds', om1, ⟨e1, e2⟩, o1, r⟩ => ?_
  subst e1 e2
  obtain ⟨v, rfl, rx⟩ := one_rep r
  obtain ⟨a, xs, rfl, h1, r1⟩ := tup_rep rx
  refine ⟨a, xs, rfl, h1, o1, fun om2 H2 S2 s2 _ => ?_⟩
  obtain ⟨a', xs', e', h2, r2⟩ := tup_rep (rx.mono s2)
  cases e'
  refine ⟨fun i d hi => ?_, ?_⟩
  · obtain ⟨hlt, rfl⟩ := rng_item hi
    have hd : ds[i]? = some (ds.getD i .non) := by rw [List.getD_eq_getElem?_getD, List.getElem?_eq_getElem hlt]; rfl
    obtain ⟨u, h3, r3⟩ := r2.get hd
    refine ⟨⟨xs', u, h2, h3⟩, fun x' H3 ⟨T, y, e3, hT, e4, hy⟩ => ?_⟩
    subst e3 e4
    have h5 := hy xs' h2
    rw [h3] at h5
    cases h5
    exact ⟨S2.new hT, Stable.new hT, new_tup S2 hT ⟨_, _, rfl, rfl, _, _, rfl, r3, rfl⟩⟩
  · refine ⟨xs', h2, ?_⟩
    rw [List.length_map, List.length_range, r2.length]
end
/-! a module's tuple of texts -/
theorem vals_strs : ∀ {ss : List Str} {us : List Value}, us.map strOf = ss.map some → Vals (ss.map V.str) us
  | [], [], _ => .nil
  | [], _ :: _, h => by simp at h
  | _ :: _, [], h => by simp at h
  | s :: ss, u :: us, h => by
    simp only [List.map_cons, List.cons.injEq] at h
    obtain ⟨h1, h2⟩ := h
    refine .cons ?_ (vals_strs h2)
    cases u with
    | str x t => cases h1; exact ⟨t, rfl⟩
    | _ => cases h1
structure TupG (K : PySem.W.Frag) (mg : Str → Option Value) (x : Str) (ss : List Str) : Prop where
  ex : ∃ a, mg x = some (.ref a) ∧ KT K a (ss.map V.str)
theorem fTupS_ok {K : PySem.W.Frag} {h : Heap} {mg : Str → Option Value} {x : Str} {ss : List Str} (X : K.In h) (G : h.Ns mainGlobals mg) (c : fTupS x ss K = true) : TupG K mg x ss := by
  obtain ⟨c1, c2⟩ := Bool.and_eq_true_iff.mp c
  refine ⟨He.ga K x, fGlo_ok X G c1, ?_⟩
  unfold tupT at c2
  split at c2
  · rename_i t dd its n l ho
    simp only [Bool.and_eq_true, decide_eq_true_eq] at c2
    obtain ⟨⟨rfl, h2⟩, h3⟩ := c2
    refine ⟨_, its, n, ho, rfl, rfl, ?_, vals_strs h2⟩
    have e := congrArg List.length h2
    rw [List.length_map, List.length_map, Array.length_toList] at e
    rw [e, sizeLine_eq]
    omega
  · cases c2
theorem v_tupG {X : Cx} {ro : Ro} {om : Om} {x : Str} {ss : List Str} {pos : Pos} (T : TupG X.K X.mg x ss) (hg : Gl X x) (hd : (x == ("__debug__" : Str)) = false) : wv X ro om (.Name x pos) (.tup (ss.map .str)) := by
  obtain ⟨a, hm, hk⟩ := T.ex
  exact v_glob hm (v := .ref a) rfl (fun om H => ⟨a, _, rfl, .inr hk, RepL.of_strs⟩) hg hd
/-! piles of motions -/
/-- x is a list of the motions ms, standing at as -/
structure Piled (κ : Ka) (om : Om) (x : D) (as : List Addr) (ms : List Mt) : Prop where
  l : Lr om x (as.map .obj)
  len : as.length = ms.length
  at_ : ∀ (i : Nat) (a : Addr) (m : Mt), as[i]? = some a → ms[i]? = some m → ∃ q, m.At κ om a q
theorem Piled.last {κ : Ka} {om : Om} {x : D} {as : List Addr} {ms : List Mt} {m : Mt} (p : Piled κ om x as ms) (h : ms.getLast? = some m) : ∃ a q, atI (as.map D.obj) (-1) = some (.obj a) ∧ m.At κ om a q := by
  have hne : ms ≠ [] := fun z => by subst z; cases h
  have hl : ms.length ≠ 0 := fun z => hne (List.length_eq_zero_iff.mp z)
  have hlen := p.len
  have hm : ms[ms.length - 1]? = some m := by rw [← List.getLast?_eq_getElem?]; exact h
  have hi : ms.length - 1 < as.length := by omega
  obtain ⟨q, hq⟩ := p.at_ (ms.length - 1) as[ms.length - 1] m (List.getElem?_eq_getElem hi) hm
  refine ⟨_, q, ?_, hq⟩
  have e : as = as.take (ms.length - 1) ++ [as[ms.length - 1]] := by
    rw [← List.take_succ_eq_append_getElem hi, show ms.length - 1 + 1 = as.length by omega, List.take_length]
  have e2 : as.map D.obj = (as.take (ms.length - 1)).map D.obj ++ [.obj as[ms.length - 1]] := by
    have := congrArg (List.map D.obj) e
    rw [List.map_append] at this
    exact this
  rw [e2]
  exact at_last
/-- the bar of a pile -/
def topRank (ms : List Mt) : Int := match ms.getLast? with
  | none => -1
  | some m => m.rank
def barOf (ms : List Mt) (c : Bool) : Int := if c = true then (if 4 > topRank ms then 4 else topRank ms) else topRank ms
theorem topRank_some {ms : List Mt} {m : Mt} (h : ms.getLast? = some m) : topRank ms = m.rank := by unfold topRank; rw [h]
end Mo

set_option Elab.async false
set_option linter.all false
set_option maxRecDepth 100000
set_option maxHeartbeats 4000000
set_option autoImplicit false
/-! Deeds and their rows. -/
namespace Mo
open PySem PySem.Spec PyProof.Rows L2
inductive Dd where
  | mv (t : Td) | vote (a n : Int) | drop | take (k : Int)
deriving DecidableEq
namespace Dd
def d : Dd → D
  | mv t => t.d
  | vote a n => .tup [.str "vote", .int a, .int n]
  | drop => .tup [.str "drop"]
  | take k => .tup [.str "take", .int k]
def p : Dd → PyData
  | mv t => t.p
  | vote a n => .tuple [.str "vote", .int a, .int n]
  | drop => .tuple [.str "drop"]
  | take k => .tuple [.str "take", .int k]
theorem pd {om : Om} : ∀ x : Dd, Pd om x.d x.p
  | mv t => t.pd
  | vote _ _ => Pd.t (.cons (Pd.str _) (.cons (Pd.int _) (.cons (Pd.int _) .nil)))
  | drop => Pd.t (.cons (Pd.str _) .nil)
  | take _ => Pd.t (.cons (Pd.str _) (.cons (Pd.int _) .nil))
theorem pk {n : Nat} : ∀ x : Dd, pokn (n + 2) x.p
  | mv t => t.pk
  | vote _ _ => pokn_tuple (all_cons pokn_str (all_cons pokn_int (all_cons pokn_int all_nil)))
  | drop => pokn_tuple (all_cons pokn_str all_nil)
  | take _ => pokn_tuple (all_cons pokn_str (all_cons pokn_int all_nil))
end Dd
/-- x tells the deed -/
def DdAt (om : Om) (x : D) : Dd → Prop
  | .mv t => TdAt om x t
  | e => x = e.d
theorem DdAt.d {om : Om} : ∀ e : Dd, DdAt om e.d e
  | .mv t => TdAt.d t
  | .vote _ _ => rfl | .drop => rfl | .take _ => rfl
abbrev strI (i : Int) : Str := (toString i : String)
/-- the words of a text, of an edit, of a deed -/
def textWs (t : List Str) : List Str := t.flatMap fun c => "/" :: wordsC c
def edWs : Ed → List Str
  | .put a s => ("put" : Str) :: strI a :: wordsC s
  | .cut a => [("cut" : Str), strI a]
  | .turn a s => ("turn" : Str) :: strI a :: wordsC s
def Td.ws : Td → List Str
  | .matter t => "matter" :: textWs t
  | .change e => "change" :: edWs e
  | .mend e => "mend" :: edWs e
  | .putOff n => ["put off", strI n]
  | .close => ["close"] | .lay => ["lay"] | .rest => ["rest"]
  | .point s => "point" :: wordsC s
def Dd.ws : Dd → List Str
  | .mv t => t.ws
  | .vote a n => ["vote", strI a, strI n]
  | .drop => ["drop"]
  | .take k => ["take", strI k]
def showD (e : Dd) : Str := clauseC e.ws
/-- of such a size that its row can be made -/
def smI (i : Int) : Prop := 0 ≤ i ∧ i < 10 ^ 12
def smE (e : Ed) : Prop := smI e.at_ ∧ e.th.length ≤ 100000
def smT : Td → Prop
  | .matter t => (t.map (·.length)).sum + t.length ≤ 1000000
  | .change e => smE e
  | .mend e => smE e
  | .putOff n => smI n
  | .point s => s.length ≤ 100000
  | _ => True
def smD : Dd → Prop
  | .mv t => smT t
  | .vote a n => smI a ∧ smI n
  | .drop => True
  | .take k => smI k
theorem smI.log {i : Int} (h : smI i) : i.natAbs.log2 < 1920 := by
  obtain ⟨h0, h1⟩ := h
  have h : i.natAbs < 2 ^ 41 := by omega
  by_cases hz : i.natAbs = 0
  · rw [hz]; decide
  · have := (Nat.log2_lt hz).mpr h
    omega
/-! lengths -/
theorem le_sum : ∀ {l : List Nat} {a : Nat}, a ∈ l → a ≤ l.sum
  | [], _, h => by cases h
  | b :: l, a, h => by
    rw [List.sum_cons]
    rcases List.mem_cons.mp h with e | e
    · omega
    · have := le_sum e; omega
theorem join_len (s : Str) (ss : List Str) : (Txt.join s ss).length ≤ (ss.map (·.length)).sum + ss.length * s.length := by
  rw [len_tl, TL.join_eq, TL.tl_join]
  refine Nat.le_trans (joinL_len _) ?_
  rw [List.map_map, List.length_map]
  have : (List.length ∘ TL.tl) = (fun s : Str => s.length) := by funext s; exact (len_tl s).symm
  rw [this, len_tl]
  exact Nat.le_refl _
theorem spl_size : ∀ (l acc : List Nat), ((TL.spl [32] 0 acc l).map List.length).sum + (TL.spl [32] 0 acc l).length = acc.length + l.length + 1
  | [], acc => by rw [TL.spl_nil]; simp
  | c :: r, acc => by
    by_cases h : TL.pre [32] (c :: r) = true
    · rw [TL.spl_hit h]
      have ih := spl_size r []
      simp only [List.map_cons, List.sum_cons, List.length_cons, List.length_nil] at ih ⊢
      show acc.length + _ + _ = _
      have e : TL.spl [32] (([32] : List Nat).length - 1) [] r = TL.spl [32] 0 [] r := rfl
      simp only [List.length_cons, List.length_nil, Nat.zero_add, Nat.sub_self] at ih ⊢
      omega
    · rw [TL.spl_miss (by simpa using h)]
      have ih := spl_size r (acc ++ [c])
      rw [List.length_append, List.length_singleton] at ih
      rw [ih, List.length_cons]
      omega
theorem split_size (s : Str) : ((Txt.split s sp).map (·.length)).sum + (Txt.split s sp).length = s.length + 1 := by
  have h := TL.split_spl s sp (by rw [tl_sp]; simp) (TL.kind_ok (by decide +kernel))
  have h2 := spl_size (TL.tl s) []
  rw [tl_sp] at h
  rw [← h] at h2
  rw [List.map_map, List.length_map] at h2
  have : (List.length ∘ TL.tl) = (fun s : Str => s.length) := by funext s; exact (len_tl s).symm
  rw [this, ← len_tl, List.length_nil, Nat.zero_add] at h2
  exact h2
theorem wordsC_size (s : Str) : ((wordsC s).map (·.length)).sum + (wordsC s).length ≤ s.length + 1 := by
  unfold wordsC
  split
  · simp
  · exact Nat.le_of_eq (split_size s)
theorem textWs_size (t : List Str) : ((textWs t).map (·.length)).sum + (textWs t).length ≤ (t.map (·.length)).sum + 3 * t.length := by
  induction t with
  | nil => simp [textWs]
  | cons c t ih =>
    have h := wordsC_size c
    have e : textWs (c :: t) = (("/" : Str) :: wordsC c) ++ textWs t := rfl
    have l1 : ("/" : Str).length = 1 := by decide +kernel
    rw [e, List.map_append, List.sum_append, List.length_append, List.map_cons, List.sum_cons, List.length_cons, List.map_cons, List.sum_cons, List.length_cons, l1]
    omega
/-- how long a number is written -/
theorem strI_len {i : Int} (h : smI i) : (strI i).length ≤ 12 := PyProof.Rows.toString_length_le h.1 (by decide) h.2
theorem edWs_size {e : Ed} (h : smE e) : ((edWs e).map (·.length)).sum + (edWs e).length ≤ 100100 := by
  have l1 : ("put" : Str).length = 3 := by decide +kernel
  have l2 : ("cut" : Str).length = 3 := by decide +kernel
  have l3 : ("turn" : Str).length = 4 := by decide +kernel
  cases e with
  | put a s =>
    have h1 := strI_len (i := a) h.1
    have h2 := wordsC_size s
    have h3 : s.length ≤ 100000 := h.2
    simp only [edWs, List.map_cons, List.sum_cons, List.length_cons]
    omega
  | cut a =>
    have h1 := strI_len (i := a) h.1
    simp only [edWs, List.map_cons, List.sum_cons, List.length_cons, List.map_nil, List.sum_nil, List.length_nil]
    omega
  | turn a s =>
    have h1 := strI_len (i := a) h.1
    have h2 := wordsC_size s
    have h3 : s.length ≤ 100000 := h.2
    simp only [edWs, List.map_cons, List.sum_cons, List.length_cons]
    omega
/-! joins within joins -/
theorem joinL_nest (S : List Nat) : ∀ (A B : List (List Nat)), A ≠ [] → TL.joinL S (TL.joinL S A :: B) = TL.joinL S (A ++ B)
  | [], _, h => absurd rfl h
  | [a], B, _ => rfl
  | a :: b :: A, [], _ => by simp [TL.joinL]
  | a :: b :: A, c :: B, _ => by
    have ih := joinL_nest S (b :: A) (c :: B) (by simp)
    show TL.joinL S (a :: b :: A) ++ (S ++ TL.joinL S (c :: B)) = a ++ (S ++ TL.joinL S (b :: (A ++ c :: B)))
    rw [show TL.joinL S (b :: (A ++ c :: B)) = TL.joinL S ((b :: A) ++ c :: B) from rfl, ← ih]
    show (a ++ (S ++ TL.joinL S (b :: A))) ++ (S ++ TL.joinL S (c :: B)) = a ++ (S ++ (TL.joinL S (b :: A) ++ (S ++ TL.joinL S (c :: B))))
    simp only [List.append_assoc]
theorem clause_nest {A B : List Str} (h : A ≠ []) : clauseC (clauseC A :: B) = clauseC (A ++ B) := by
  apply str_ext
  rw [tl_clause, tl_clause, List.map_cons, tl_clause, joinL_nest _ _ _ (by simpa using h), List.map_append]
theorem clause_two (a b : Str) : clauseC [a, b] = a ++ sp ++ b := by
  apply str_ext
  rw [tl_clause, tl_app, tl_app, tl_sp]
  show TL.tl a ++ ([32] ++ TL.tl b) = _
  rw [List.append_assoc]
theorem clause_cons {a : Str} {A : List Str} (h : A ≠ []) : clauseC (a :: A) = a ++ sp ++ clauseC A := by
  cases A with
  | nil => exact absurd rfl h
  | cons b A =>
    apply str_ext
    rw [tl_clause, tl_app, tl_app, tl_sp, tl_clause]
    show TL.tl a ++ ([32] ++ TL.joinL [32] ((b :: A).map TL.tl)) = _
    rw [List.append_assoc]
/-! well formed deeds -/
def IsCl (c : Str) : Prop := ∃ ws : List Str, (∀ x ∈ ws, IsWord x) ∧ c = clauseC ws ∧ ws.length ≤ 100
theorem IsCl.len {c : Str} (h : IsCl c) : c.length ≤ 2100 := by
  obtain ⟨ws, h1, rfl, h2⟩ := h
  have h3 := clause_len ws
  have h4 := words_sum h1
  omega
def wfI (i : Int) : Prop := 0 ≤ i ∧ i < 10 ^ 10
theorem wfI.sm {i : Int} (h : wfI i) : smI i := ⟨h.1, Int.lt_trans h.2 (by decide)⟩
def wfT : Td → Prop
  | .matter t => (∀ c ∈ t, IsCl c) ∧ t.length ≤ 100
  | .change e => wfI e.at_ ∧ IsCl e.th
  | .mend e => wfI e.at_ ∧ (e.kd ≠ "cut" → IsWord e.th)
  | .putOff n => 1 ≤ n ∧ n ≤ 999999999
  | .point s => IsCl s
  | _ => True
def wfD : Dd → Prop
  | .mv t => wfT t
  | .vote a n => wfI a ∧ wfI n
  | .drop => True
  | .take k => wfI k
theorem wfD.sm : ∀ {e : Dd}, wfD e → smD e
  | .mv (.matter t), h => by
    have := sum_le (f := fun s : Str => s.length) (m := 2100) (l := t) fun x hx => (h.1 x hx).len
    have h2 : t.length ≤ 100 := h.2
    show _ ≤ _
    omega
  | .mv (.change e), h => ⟨h.1.sm, Nat.le_trans h.2.len (by decide)⟩
  | .mv (.mend e), h => ⟨h.1.sm, by
    by_cases hk : e.kd = "cut"
    · have : e.th = "" := by
        cases e with
        | cut a => rfl
        | put a s => exact absurd hk (show ¬ (("put" : Str) = "cut") by decide)
        | turn a s => exact absurd hk (show ¬ (("turn" : Str) = "cut") by decide)
      rw [this]
      decide +kernel
    · exact Nat.le_trans (h.2 hk).hi (by decide)⟩
  | .mv (.putOff n), h => ⟨by have := h.1; omega, by have := h.2; show n < 10 ^ 12; omega⟩
  | .mv .close, _ => trivial
  | .mv .lay, _ => trivial
  | .mv .rest, _ => trivial
  | .mv (.point s), h => Nat.le_trans (IsCl.len h) (by decide)
  | .vote a n, h => ⟨h.1.sm, h.2.sm⟩
  | .drop, _ => trivial
  | .take k, h => wfI.sm h
/-! the drawn words of the rows' laws -/
def wordsN (d : Int) : Int := if d / 4 % 8 = 3 then d / 32 % 13 else d % 4
def wordsBB (d : Int) : List Str := (streamL d (wordsN d).toNat).map wordB
theorem wordsN_bd (d : Int) : 0 ≤ wordsN d ∧ wordsN d ≤ 12 := by unfold wordsN; split <;> omega
theorem wordsBB_len (d : Int) : (wordsBB d).length ≤ 12 := by
  unfold wordsBB
  rw [List.length_map, streamL_len]
  have := wordsN_bd d
  omega
theorem wordsBB_ok (d : Int) : ∀ x ∈ wordsBB d, IsWord x := fun x h => by
  obtain ⟨z, _, rfl⟩ := List.mem_map.mp h
  exact wordB_ok z
theorem wordsBB_cl (d : Int) : IsCl (clauseC (wordsBB d)) := ⟨_, wordsBB_ok d, rfl, Nat.le_trans (wordsBB_len d) (by decide)⟩
def numB (d : Int) : Int := if d % 3 = 0 then d / 3 * 48271 % 10 ^ 10 else d / 3 % 4
theorem numB_wf (d : Int) : wfI (numB d) := by
  unfold numB wfI
  split <;> omega
def Dd.kd : Dd → Str
  | .mv t => t.kind
  | .vote _ _ => "vote"
  | .drop => "drop"
  | .take _ => "take"
theorem Td.ix0 {X : Cx} {om : Om} {t : Td} : Ix X om t.d (.int 0) (.str t.kind) := by cases t <;> exact ix_T rfl
theorem Dd.ix0 {X : Cx} {om : Om} {e : Dd} : Ix X om e.d (.int 0) (.str e.kd) := by
  cases e with
  | mv t => exact Td.ix0
  | _ => exact ix_T rfl
theorem Td.of_matter : ∀ {t : Td}, t.kind = "matter" → ∃ e, t = .matter e
  | .matter e, _ => ⟨e, rfl⟩
  | .change _, h => absurd h (show ¬ (("change" : Str) = "matter") by decide)
  | .mend _, h => absurd h (show ¬ (("mend" : Str) = "matter") by decide)
  | .putOff _, h => absurd h (show ¬ (("put off" : Str) = "matter") by decide)
  | .close, h => absurd h (show ¬ (("close" : Str) = "matter") by decide)
  | .lay, h => absurd h (show ¬ (("lay" : Str) = "matter") by decide)
  | .rest, h => absurd h (show ¬ (("rest" : Str) = "matter") by decide)
  | .point _, h => absurd h (show ¬ (("point" : Str) = "matter") by decide)
theorem Dd.of_matter : ∀ {e : Dd}, e.kd = "matter" → ∃ t, e = .mv (.matter t)
  | .mv t, h => let ⟨e, he⟩ := Td.of_matter (t := t) h; ⟨e, by rw [he]⟩
  | .vote _ _, h => absurd h (show ¬ (("vote" : Str) = "matter") by decide)
  | .drop, h => absurd h (show ¬ (("drop" : Str) = "matter") by decide)
  | .take _, h => absurd h (show ¬ (("take" : Str) = "matter") by decide)
theorem str_app3 (a b c : Str) (h : TL.tl b = [32]) : a ++ b ++ c = clauseC [a, c] := by
  rw [clause_two]
  congr 1
  congr 1
  exact str_ext (h.trans tl_sp.symm)
theorem textWs_snoc {t : List Str} {c : Str} : textWs (t ++ [c]) = textWs t ++ (("/" : Str) :: wordsC c) := by
  unfold textWs
  rw [List.flatMap_append]
  simp
end Mo

set_option Elab.async false
set_option linter.all false
set_option maxRecDepth 100000
set_option maxHeartbeats 4000000
set_option autoImplicit false
/-! Rows read. -/
namespace Mo
open PySem PySem.Spec PyProof.Rows L2
theorem c_leS {X : Cx} {om : Om} {i j : Str} : Op X om (compareOp .LtE) (.str i) (.str j) (.bl (!decide (j.cps.toList < i.cps.toList))) := .of op_le_str fun H v u S rx ry Q q => by cases rx; cases ry; exact ⟨i, j, rfl, rfl, q _ rfl⟩
/-! numbers -/
def isDig (c : Nat) : Bool := decide (48 ≤ c) && decide (c ≤ 57)
def numHd (w : Str) : Bool := !(decide (1 ≤ w.length) && decide (w.length ≤ 10)) || (decide ((TL.tl w).head? = some 48) && decide (1 < w.length))
def numOk (w : Str) : Bool := !numHd w && (TL.tl w).all isDig
def numVal (w : Str) : Int := (NumText.digitsVal (TL.tl w) : Nat)
def numW (w : Str) : Option Int := if numOk w = true then some (numVal w) else none
theorem numVal_int {w : Str} (h : numOk w = true) : intText? w = some (numVal w) := by
  obtain ⟨h1, h2⟩ := Bool.and_eq_true_iff.mp h
  unfold numHd at h1
  simp only [Bool.not_or, Bool.not_not, Bool.and_eq_true, decide_eq_true_eq] at h1
  obtain ⟨⟨h3, h4⟩, _⟩ := h1
  have e : w = SX.S (TL.tl w) := TL.ext_tl rfl
  have := SX.int_S (a := TL.tl w) h2 (fun z => by rw [len_tl, z] at h3; simp at h3) (by rw [← len_tl]; omega)
  rw [← e] at this
  exact this
theorem numVal_bd {w : Str} : 0 ≤ numVal w := Int.natCast_nonneg _
theorem numW_some {w : Str} {i : Int} (h : numW w = some i) : numOk w = true ∧ i = numVal w := by
  unfold numW at h
  split at h
  · exact ⟨by assumption, (Option.some.inj h).symm⟩
  · cases h
theorem numL_head : ∀ (n : Nat), n ≠ 0 → (TL.numL n).head? ≠ some 48 := by
  intro n
  induction n using Nat.strongRecOn with
  | ind n ih =>
    intro hn
    by_cases h : n < 10
    · rw [TL.numL_lt h]
      simp
      omega
    · rw [TL.numL_step (by omega), List.head?_append]
      have := ih (n / 10) (by omega) (by omega)
      cases e : (TL.numL (n / 10)).head? with
      | none =>
        have h2 : TL.numL (n / 10) = [] := List.head?_eq_none_iff.mp e
        exfalso
        by_cases h3 : n / 10 < 10
        · rw [TL.numL_lt h3] at h2; cases h2
        · rw [TL.numL_step (by omega)] at h2
          exact absurd h2 (by simp)
      | some c =>
        rw [e] at this
        simpa using this
theorem numVal_num (n : Nat) : NumText.digitsVal (TL.numL n) = n := by
  induction n using Nat.strongRecOn with
  | ind n ih =>
    by_cases h : n < 10
    · rw [TL.numL_lt h]
      simp [NumText.digitsVal]
    · rw [TL.numL_step (by omega)]
      have := ih (n / 10) (by omega)
      unfold NumText.digitsVal at this ⊢
      rw [List.foldl_append, this]
      simp
      omega
theorem strI_tl {i : Int} (h : 0 ≤ i) : TL.tl (strI i) = TL.numL i.toNat := by
  have e : i = ((i.toNat : Nat) : Int) := by omega
  rw [e]
  exact TL.tl_num _
theorem numW_strI {i : Int} (h : wfI i) : numW (strI i) = some i := by
  have ht := strI_tl h.1
  have hl : (strI i).length ≤ 10 := PyProof.Rows.toString_length_le h.1 (by decide) h.2
  have hne : TL.numL i.toNat ≠ [] := fun z => by
    by_cases h3 : i.toNat < 10
    · rw [TL.numL_lt h3] at z; cases z
    · rw [TL.numL_step (by omega)] at z
      exact absurd z (by simp)
  have h1 : 1 ≤ (strI i).length := by
    rw [len_tl, ht]
    exact List.length_pos_iff.mpr hne
  have hd : (TL.tl (strI i)).all isDig = true := by
    rw [ht]
    refine List.all_eq_true.mpr fun c hc => ?_
    have := TL.numL_digits i.toNat c hc
    unfold isDig
    simp [this]
  have hh : numHd (strI i) = false := by
    unfold numHd
    rw [decide_eq_true h1, decide_eq_true hl, ht]
    by_cases h0 : i.toNat = 0
    · have e0 : i = 0 := by have := h.1; omega
      subst e0
      decide +kernel
    · have := numL_head i.toNat h0
      simp [this]
  have ho : numOk (strI i) = true := by unfold numOk; rw [hh, hd]; rfl
  unfold numW
  rw [if_pos ho]
  unfold numVal
  rw [ht, numVal_num]
  congr 1
  have := h.1
  omega
/-! words -/
def wordOk (w : Str) : Bool := !(!(decide (1 ≤ w.length) && decide (w.length ≤ 20)) || decide (w = "/"))
def checkW (ws : List Str) : Bool := ws.all wordOk
theorem IsWord.ok {w : Str} (h : IsWord w) : wordOk w = true := by
  unfold wordOk
  rw [decide_eq_true h.lo, decide_eq_true h.hi, decide_eq_false h.no]
  rfl
theorem checkW_ok {ws : List Str} (h : ∀ x ∈ ws, IsWord x) : checkW ws = true := List.all_eq_true.mpr fun x hx => (h x hx).ok
/-! texts -/
def grpF (s : List (List Str) × List Str) (w : Str) : List (List Str) × List Str := if w = "/" then (s.1 ++ [s.2], []) else (s.1, s.2 ++ [w])
def grpS (ws : List Str) : List (List Str) × List Str := ws.foldl grpF ([], [])
def grpW (ws : List Str) : List (List Str) := (grpS ws).1 ++ [(grpS ws).2]
def textW (ws : List Str) : Option (List Str) := if (grpW ws).head? = some [] ∧ (grpW ws).all checkW = true then some ((grpW ws).tail.map clauseC) else none
theorem grpF_words : ∀ {ws : List Str} {s : List (List Str) × List Str}, (∀ x ∈ ws, x ≠ "/") → ws.foldl grpF s = (s.1, s.2 ++ ws)
  | [], s, _ => by simp
  | w :: ws, s, h => by
    rw [List.foldl_cons]
    have hw := h w List.mem_cons_self
    rw [show grpF s w = (s.1, s.2 ++ [w]) from if_neg hw, grpF_words fun x hx => h x (List.mem_cons_of_mem _ hx)]
    simp
theorem grp_text : ∀ (r : List Str), (∀ c ∈ r, IsCl c) → grpW (textWs r.reverse) = [] :: r.reverse.map wordsC
  | [], _ => rfl
  | c :: r, h => by
    have ih := grp_text r fun x hx => h x (List.mem_cons_of_mem _ hx)
    obtain ⟨ws, hws, rfl, _⟩ := h c List.mem_cons_self
    rw [List.reverse_cons, textWs_snoc, List.map_append]
    unfold grpW grpS at ih ⊢
    rw [List.foldl_append, List.foldl_cons]
    generalize hS : (textWs r.reverse).foldl grpF ([], []) = S at *
    rw [show grpF S "/" = (S.1 ++ [S.2], []) from if_pos rfl, words_clause hws, grpF_words fun x hx => (hws x hx).no]
    show (S.1 ++ [S.2]) ++ [[] ++ ws] = _
    rw [ih]
    show _ = [] :: (List.map wordsC r.reverse ++ [wordsC (clauseC ws)])
    rw [words_clause hws]
    rfl
theorem textW_text {t : List Str} (h : ∀ c ∈ t, IsCl c) : textW (textWs t) = some t := by
  have g := grp_text t.reverse fun c hc => h c (List.mem_reverse.mp hc)
  rw [List.reverse_reverse] at g
  unfold textW
  rw [g, if_pos]
  · simp only [List.tail_cons, List.map_map]
    congr 1
    refine (List.map_congr_left fun c hc => ?_).trans (List.map_id t)
    obtain ⟨ws, hws, rfl, _⟩ := h c hc
    show clauseC (wordsC (clauseC ws)) = _
    rw [words_clause hws]
    rfl
  · refine ⟨rfl, List.all_eq_true.mpr fun g hg => ?_⟩
    rcases List.mem_cons.mp hg with rfl | hg
    · rfl
    · obtain ⟨c, hc, rfl⟩ := List.mem_map.mp hg
      obtain ⟨ws, hws, rfl, _⟩ := h c hc
      rw [words_clause hws]
      exact checkW_ok hws
/-! edits, deeds -/
def edW : List Str → Option (Str × Int × List Str)
  | k :: n :: r => if k = "put" ∨ k = "cut" ∨ k = "turn" then (numW n).bind fun i => if k = "cut" then (if r = [] then some (k, i, []) else none) else (if checkW r = true then some (k, i, r) else none) else none
  | _ => none
def mkEd (k : Str) (i : Int) (s : Str) : Ed := if k = "cut" then .cut i else if k = "put" then .put i s else .turn i s
def changeW (ws : List Str) : Option Dd := (edW ws).map fun z => .mv (.change (mkEd z.1 z.2.1 (clauseC z.2.2)))
def mendW (ws : List Str) : Option Dd := (edW ws).bind fun z => if z.1 = "cut" then some (.mv (.mend (.cut z.2.1))) else match z.2.2 with
  | [x] => some (.mv (.mend (mkEd z.1 z.2.1 x)))
  | _ => none
def putOffW : List Str → Option Dd
  | [k, n] => if k = "off" then (numW n).bind fun i => if 1 ≤ i ∧ i ≤ 999999999 then some (.mv (.putOff i)) else none else none
  | _ => none
def plainW : List Str → Option Dd
  | [k] => if k = "close" then some (.mv .close) else if k = "lay" then some (.mv .lay) else if k = "rest" then some (.mv .rest) else if k = "drop" then some .drop else none
  | [k, n] => if k = "take" then (numW n).map .take else none
  | [k, a, n] => if k = "vote" then (numW a).bind fun i => (numW n).map fun j => .vote i j else none
  | _ => none
def readW : List Str → Option Dd
  | [] => none
  | k :: r => if k = "matter" then (textW r).map fun t => .mv (.matter t) else if k = "change" then changeW r else if k = "mend" then mendW r else if k = "put" then putOffW r
    else if k = "point" then (if checkW r = true then some (.mv (.point (clauseC r))) else none) else plainW (k :: r)
def readR (s : Str) : Option Dd := readW (Txt.split s sp)
/-! sizes -/
def smW (ws : List Str) : Prop := (ws.map (·.length)).sum + ws.length ≤ 1000000 ∧ ws.length ≤ 99000
theorem sub_sum {a b : List Str} (h : a.Sublist b) : (a.map (·.length)).sum ≤ (b.map (·.length)).sum := by
  induction h with
  | slnil => exact Nat.le_refl _
  | cons x _ ih => rw [List.map_cons, List.sum_cons]; omega
  | cons_cons x _ ih => rw [List.map_cons, List.map_cons, List.sum_cons, List.sum_cons]; omega
theorem smW.sub {a b : List Str} (h : a.Sublist b) (w : smW b) : smW a := by
  have h1 := sub_sum h
  have h2 := h.length_le
  exact ⟨by have := w.1; omega, by have := w.2; omega⟩
theorem smW.each {a : List Str} (w : smW a) : ∀ z ∈ a, z.length ≤ 1000000 := fun z hz => by
  have : z.length ≤ (a.map (·.length)).sum := le_sum (List.mem_map.mpr ⟨z, hz, rfl⟩)
  have := w.1
  omega
theorem grpS_snoc (ws : List Str) (w : Str) : grpS (ws ++ [w]) = grpF (grpS ws) w := by
  unfold grpS
  rw [List.foldl_append]
  rfl
theorem grp_sub (ws : List Str) : (∀ g ∈ (grpS ws).1, g.Sublist ws) ∧ (grpS ws).2.Sublist ws ∧ (grpS ws).1.length ≤ ws.length := by
  have : ∀ r : List Str, (∀ g ∈ (grpS r.reverse).1, g.Sublist r.reverse) ∧ (grpS r.reverse).2.Sublist r.reverse ∧ (grpS r.reverse).1.length ≤ r.reverse.length := by
    intro r
    induction r with
    | nil => exact ⟨(fun g h => by cases h), List.Sublist.refl _, Nat.le_refl _⟩
    | cons w r ih =>
      obtain ⟨h1, h2, h3⟩ := ih
      rw [List.reverse_cons, grpS_snoc]
      unfold grpF
      have up : ∀ {g : List Str}, g.Sublist r.reverse → g.Sublist (r.reverse ++ [w]) := fun h => h.trans (List.sublist_append_left _ _)
      split
      · refine ⟨fun g hg => ?_, List.nil_sublist _, ?_⟩
        · rcases List.mem_append.mp hg with hg | hg
          · exact up (h1 g hg)
          · rw [List.mem_singleton.mp hg]; exact up h2
        · rw [List.length_append, List.length_append]
          show _ + 1 ≤ _ + 1
          omega
      · refine ⟨fun g hg => up (h1 g hg), h2.append (List.Sublist.refl _), ?_⟩
        rw [List.length_append]
        exact Nat.le_trans h3 (Nat.le_add_right _ _)
  have h := this ws.reverse
  rw [List.reverse_reverse] at h
  exact h
theorem grpW_sub (ws : List Str) : (∀ g ∈ grpW ws, g.Sublist ws) ∧ (grpW ws).length ≤ ws.length + 1 := by
  obtain ⟨h1, h2, h3⟩ := grp_sub ws
  refine ⟨fun g hg => ?_, ?_⟩
  · rcases List.mem_append.mp hg with hg | hg
    · exact h1 g hg
    · rw [List.mem_singleton.mp hg]; exact h2
  · unfold grpW
    rw [List.length_append]
    show _ + 1 ≤ _
    omega
theorem all_take {α : Type} {p : α → Bool} {xs : List α} {i : Nat} {x : α} (hi : xs[i]? = some x) (h : (xs.take i).all p = true) (hx : p x = true) : (xs.take (i + 1)).all p = true := by
  obtain ⟨hl, e⟩ := List.getElem?_eq_some_iff.mp hi
  rw [List.take_succ_eq_append_getElem hl, List.all_append, h, e]
  simpa using hx
theorem take_snoc {α : Type} {xs : List α} {i : Nat} {x : α} (hi : xs[i]? = some x) : xs.take (i + 1) = xs.take i ++ [x] := by
  obtain ⟨hl, e⟩ := List.getElem?_eq_some_iff.mp hi
  rw [List.take_succ_eq_append_getElem hl, e]
/-! what the readers tell -/
theorem edW_some {ws : List Str} {k : Str} {i : Int} {r : List Str} (h : edW ws = some (k, i, r)) : (k = "put" ∨ k = "cut" ∨ k = "turn") ∧ r.Sublist ws ∧ (k = "cut" → r = []) := by
  match ws, h with
  | [], h => cases h
  | [_], h => cases h
  | k' :: n :: r', h =>
    unfold edW at h
    simp only at h
    split at h
    · rename_i hk
      cases hn : numW n with
      | none => rw [hn] at h; cases h
      | some j =>
        rw [hn] at h
        simp only [Option.bind_some] at h
        split at h
        · split at h
          · cases h
            exact ⟨hk, List.nil_sublist _, fun _ => rfl⟩
          · cases h
        · rename_i hc
          split at h
          · cases h
            exact ⟨hk, (List.sublist_cons_self _ _).trans (List.sublist_cons_self _ _), fun z => absurd z hc⟩
          · cases h
    · cases h
/-- an edit as read, its thing as words -/
def edRes (k : Str) (i : Int) (r : List Str) : D := if k = "cut" then .tup [.str k, .int i] else .tup [.str k, .int i, .lst (r.map .str)]
theorem mkEd_d {k : Str} {i : Int} {s : Str} (hk : k = "put" ∨ k = "cut" ∨ k = "turn") : (mkEd k i s).d = if k = "cut" then .tup [.str k, .int i] else .tup [.str k, .int i, .str s] := by
  rcases hk with rfl | rfl | rfl
  · rfl
  · rfl
  · rfl
/-- a module's number -/
theorem v_gint {X : Cx} {ro : Ro} {om : Om} {x : Str} {i : Int} {pos : Pos} (h : ∃ t, X.mg x = some (.int i t)) (hg : Gl X x) (hd : (x == ("__debug__" : Str)) = false := by decide) : wv X ro om (.Name x pos) (.int i) := by
  obtain ⟨t, ht⟩ := h
  exact v_glob (v := .int i) ht ⟨t, rfl⟩ (fun _ _ => rfl) hg hd
end Mo

set_option Elab.async false
set_option linter.all false
set_option maxRecDepth 100000
set_option maxHeartbeats 4000000
set_option autoImplicit false
/-! A shown deed is read as the deed. -/
namespace Mo
open PySem PySem.Spec PyProof.Rows L2
theorem putOffW_no {ws : List Str} {t : List Str} : putOffW ws ≠ some (.mv (.matter t)) := by
  intro h
  unfold putOffW at h
  split at h
  · rename_i k n
    split at h
    · cases h2 : numW n with
      | none => rw [h2] at h; cases h
      | some i =>
        rw [h2] at h
        simp only [Option.bind_some] at h
        split at h <;> cases h
    · cases h
  · cases h
theorem plainW_no {ws : List Str} {t : List Str} : plainW ws ≠ some (.mv (.matter t)) := by
  intro h
  unfold plainW at h
  split at h
  · split at h
    · cases h
    · split at h
      · cases h
      · split at h
        · cases h
        · split at h <;> cases h
  · rename_i k n
    split at h
    · cases h2 : numW n <;> rw [h2] at h <;> cases h
    · cases h
  · rename_i k a n
    split at h
    · cases h2 : numW a with
      | none => rw [h2] at h; cases h
      | some i =>
        rw [h2] at h
        simp only [Option.bind_some] at h
        cases h3 : numW n <;> rw [h3] at h <;> cases h
    · cases h
  · cases h
theorem split_clause {ws : List Str} (hne : ws ≠ []) (h : ∀ w ∈ ws, 32 ∉ TL.tl w) : Txt.split (clauseC ws) sp = ws := by
  unfold clauseC
  exact TL.split_join (y := sp) (s := 32) (S := []) tl_sp (by decide +kernel) hne h
/-- the words of a deed's row -/
def rowWs : Dd → List Str
  | .mv (.putOff n) => ["put", "off", strI n]
  | e => e.ws
theorem rowWs_ne (e : Dd) : rowWs e ≠ [] := by
  cases e with
  | mv t => cases t <;> simp [rowWs, Dd.ws, Td.ws]
  | vote a n => simp [rowWs, Dd.ws]
  | drop => simp [rowWs, Dd.ws]
  | take k => simp [rowWs, Dd.ws]
theorem put_off_eq : clauseC ["put", "off"] = ("put off" : Str) := by decide +kernel
theorem showD_row (e : Dd) : showD e = clauseC (rowWs e) := by
  cases e with
  | mv t =>
    cases t with
    | putOff n =>
      show clauseC [("put off" : Str), strI n] = clauseC ((["put", "off"] : List Str) ++ [strI n])
      rw [← put_off_eq, clause_nest (by simp)]
    | _ => rfl
  | _ => rfl
theorem strI_blank {i : Int} (h : 0 ≤ i) : 32 ∉ TL.tl (strI i) := fun m => by
  rw [strI_tl h] at m
  have := TL.numL_digits i.toNat 32 m
  omega
theorem cl_words {c : Str} (h : IsCl c) : (∀ w ∈ wordsC c, IsWord w) ∧ clauseC (wordsC c) = c ∧ (wordsC c).length ≤ 100 := by
  obtain ⟨ws, h1, rfl, h2⟩ := h
  rw [words_clause h1]
  exact ⟨h1, rfl, h2⟩
theorem word_words {s : Str} (h : IsWord s) : wordsC s = [s] := by
  have := words_clause (ws := [s]) fun w hw => by rw [List.mem_singleton.mp hw]; exact h
  rw [show clauseC [s] = s from by apply str_ext; rw [tl_clause]; rfl] at this
  exact this
theorem word_cl {s : Str} (h : IsWord s) : IsCl s := ⟨[s], (fun w hw => by rw [List.mem_singleton.mp hw]; exact h), by apply str_ext; rw [tl_clause]; rfl, by show 1 ≤ 100; decide⟩
theorem kw_blank : ∀ k ∈ (["matter", "/", "change", "mend", "put", "cut", "turn", "off", "close", "lay", "rest", "point", "vote", "drop", "take"] : List Str), 32 ∉ TL.tl k := by decide +kernel
/-- no blank in the words of a text, of an edit -/
theorem text_blank {t : List Str} (h : ∀ c ∈ t, IsCl c) : ∀ w ∈ textWs t, 32 ∉ TL.tl w := fun w hw => by
  obtain ⟨c, hc, hw⟩ := List.mem_flatMap.mp hw
  rcases List.mem_cons.mp hw with rfl | hw
  · exact kw_blank _ (by simp)
  · exact ((cl_words (h c hc)).1 w hw).blank
def wfEd (e : Ed) : Prop := wfI e.at_ ∧ (e.kd ≠ "cut" → IsCl e.th)
theorem ed_blank {e : Ed} (h : wfEd e) : ∀ w ∈ edWs e, 32 ∉ TL.tl w := fun w hw => by
  cases e with
  | cut a =>
    rcases List.mem_cons.mp hw with rfl | hw
    · exact kw_blank _ (by simp)
    · rw [List.mem_singleton.mp hw]
      exact strI_blank h.1.1
  | put a s =>
    rcases List.mem_cons.mp hw with rfl | hw
    · exact kw_blank _ (by simp)
    · rcases List.mem_cons.mp hw with rfl | hw
      · exact strI_blank h.1.1
      · exact ((cl_words (h.2 (show ¬ (("put" : Str) = "cut") by decide))).1 w hw).blank
  | turn a s =>
    rcases List.mem_cons.mp hw with rfl | hw
    · exact kw_blank _ (by simp)
    · rcases List.mem_cons.mp hw with rfl | hw
      · exact strI_blank h.1.1
      · exact ((cl_words (h.2 (show ¬ (("turn" : Str) = "cut") by decide))).1 w hw).blank
theorem wf_change {e : Ed} (h : wfT (.change e)) : wfEd e := ⟨h.1, fun _ => h.2⟩
theorem wf_mend {e : Ed} (h : wfT (.mend e)) : wfEd e := ⟨h.1, fun k => word_cl (h.2 k)⟩
theorem row_blank {e : Dd} (h : wfD e) : ∀ w ∈ rowWs e, 32 ∉ TL.tl w := by
  have k1 : ∀ {k : Str} {r : List Str}, k ∈ (["matter", "/", "change", "mend", "put", "cut", "turn", "off", "close", "lay", "rest", "point", "vote", "drop", "take"] : List Str) → (∀ w ∈ r, 32 ∉ TL.tl w) → ∀ w ∈ k :: r, 32 ∉ TL.tl w := fun hk hr w hw => by
    rcases List.mem_cons.mp hw with rfl | hw
    · exact kw_blank _ hk
    · exact hr w hw
  have k0 : ∀ w ∈ ([] : List Str), 32 ∉ TL.tl w := fun w hw => by cases hw
  have kn : ∀ {i : Int} {r : List Str}, 0 ≤ i → (∀ w ∈ r, 32 ∉ TL.tl w) → ∀ w ∈ strI i :: r, 32 ∉ TL.tl w := fun hi hr w hw => by
    rcases List.mem_cons.mp hw with rfl | hw
    · exact strI_blank hi
    · exact hr w hw
  cases e with
  | mv t =>
    cases t with
    | matter t => exact k1 (by simp) (text_blank h.1)
    | change e => exact k1 (by simp) (ed_blank (wf_change h))
    | mend e => exact k1 (by simp) (ed_blank (wf_mend h))
    | putOff n => exact k1 (by simp) (k1 (by simp) (kn (by have : 1 ≤ n := h.1; omega) k0))
    | close => exact k1 (by simp) k0
    | lay => exact k1 (by simp) k0
    | rest => exact k1 (by simp) k0
    | point s => exact k1 (by simp) fun w hw => ((cl_words h).1 w hw).blank
  | vote a n => exact k1 (by simp) (kn h.1.1 (kn h.2.1 k0))
  | drop => exact k1 (by simp) k0
  | take k => exact k1 (by simp) (kn h.1 k0)
theorem edW_cons {k n : Str} {r : List Str} (hk : k = "put" ∨ k = "cut" ∨ k = "turn") : edW (k :: n :: r) = (numW n).bind fun i => if k = "cut" then (if r = [] then some (k, i, []) else none) else (if checkW r = true then some (k, i, r) else none) := if_pos hk
theorem putOffW_off {k n : Str} (hk : k = "off") : putOffW [k, n] = (numW n).bind fun i => if 1 ≤ i ∧ i ≤ 999999999 then some (.mv (.putOff i)) else none := if_pos hk
theorem edW_edWs {e : Ed} (h : wfEd e) : edW (edWs e) = some (e.kd, e.at_, if e.kd = "cut" then [] else wordsC e.th) := by
  cases e with
  | cut a =>
    have h1 : wfI a := h.1
    refine (edW_cons (.inr (.inl rfl))).trans ?_
    rw [numW_strI h1]
    rfl
  | put a s =>
    have nc : ¬ (("put" : Str) = "cut") := by decide
    have h1 : wfI a := h.1
    show edW (("put" : Str) :: strI a :: wordsC s) = some (("put" : Str), a, if ("put" : Str) = "cut" then [] else wordsC s)
    refine (edW_cons (.inl rfl)).trans ?_
    rw [numW_strI h1, Option.bind_some, if_neg nc, if_pos (show checkW (wordsC s) = true from checkW_ok (cl_words (h.2 nc)).1), if_neg nc]
  | turn a s =>
    have nc : ¬ (("turn" : Str) = "cut") := by decide
    have h1 : wfI a := h.1
    show edW (("turn" : Str) :: strI a :: wordsC s) = some (("turn" : Str), a, if ("turn" : Str) = "cut" then [] else wordsC s)
    refine (edW_cons (.inr (.inr rfl))).trans ?_
    rw [numW_strI h1, Option.bind_some, if_neg nc, if_pos (show checkW (wordsC s) = true from checkW_ok (cl_words (h.2 nc)).1), if_neg nc]
theorem readW_row {e : Dd} (h : wfD e) : readW (rowWs e) = some e := by
  cases e with
  | mv t =>
    cases t with
    | matter t =>
      show (textW (textWs t)).map _ = _
      rw [textW_text h.1]
      rfl
    | change e =>
      show changeW (edWs e) = _
      unfold changeW
      rw [edW_edWs (wf_change h)]
      cases e with
      | cut a => rfl
      | put a s =>
        have : clauseC (wordsC s) = s := (cl_words h.2).2.1
        show some (Dd.mv (.change (mkEd "put" a (clauseC (wordsC s))))) = _
        rw [this]; rfl
      | turn a s =>
        have : clauseC (wordsC s) = s := (cl_words h.2).2.1
        show some (Dd.mv (.change (mkEd "turn" a (clauseC (wordsC s))))) = _
        rw [this]; rfl
    | mend e =>
      show mendW (edWs e) = _
      unfold mendW
      rw [edW_edWs (wf_mend h)]
      cases e with
      | cut a => rfl
      | put a s =>
        have hw : IsWord s := h.2 (show ¬ (("put" : Str) = "cut") by decide)
        show (match wordsC s with | [x] => some (Dd.mv (.mend (mkEd "put" a x))) | _ => none) = _
        rw [word_words hw]; rfl
      | turn a s =>
        have hw : IsWord s := h.2 (show ¬ (("turn" : Str) = "cut") by decide)
        show (match wordsC s with | [x] => some (Dd.mv (.mend (mkEd "turn" a x))) | _ => none) = _
        rw [word_words hw]; rfl
    | putOff n =>
      show putOffW ["off", strI n] = _
      have hn : wfI n := ⟨by have := h.1; omega, by have : n ≤ 999999999 := h.2; show n < 10000000000; omega⟩
      refine (putOffW_off rfl).trans ?_
      rw [numW_strI hn, Option.bind_some, if_pos (show 1 ≤ n ∧ n ≤ 999999999 from h)]
    | close => rfl
    | lay => rfl
    | rest => rfl
    | point s =>
      show (if checkW (wordsC s) = true then some (Dd.mv (.point (clauseC (wordsC s)))) else none) = _
      rw [if_pos (checkW_ok (cl_words h).1), (cl_words h).2.1]
  | vote a n =>
    show (numW (strI a)).bind (fun i => (numW (strI n)).map fun j => Dd.vote i j) = _
    rw [numW_strI h.1, numW_strI h.2]
    rfl
  | drop => rfl
  | take k =>
    show (numW (strI k)).map Dd.take = _
    rw [numW_strI h]
    rfl
theorem readR_show {e : Dd} (h : wfD e) : readR (showD e) = some e := by
  unfold readR
  rw [showD_row, split_clause (rowWs_ne e) (row_blank h)]
  exact readW_row h
theorem showD_inj {e e' : Dd} (h : wfD e) (h' : wfD e') (z : showD e = showD e') : e = e' := by
  have := readR_show h
  rw [z, readR_show h'] at this
  exact (Option.some.inj this).symm
/-! sizes -/
theorem textWs_len {t : List Str} (h : ∀ c ∈ t, IsCl c) : (textWs t).length ≤ t.length * 101 := by
  unfold textWs
  rw [List.length_flatMap]
  refine sum_le (f := fun c : Str => (("/" : Str) :: wordsC c).length) fun c hc => ?_
  rw [List.length_cons]
  have := (cl_words (h c hc)).2.2
  omega
theorem edWs_len {e : Ed} (h : wfEd e) : (edWs e).length ≤ 102 := by
  cases e with
  | cut a => show 2 ≤ _; decide
  | put a s =>
    have := (cl_words (h.2 (show ¬ (("put" : Str) = "cut") by decide))).2.2
    have : (wordsC s).length ≤ 100 := this
    show (wordsC s).length + 1 + 1 ≤ _
    omega
  | turn a s =>
    have := (cl_words (h.2 (show ¬ (("turn" : Str) = "cut") by decide))).2.2
    have : (wordsC s).length ≤ 100 := this
    show (wordsC s).length + 1 + 1 ≤ _
    omega
theorem row_count {e : Dd} (h : wfD e) : (rowWs e).length ≤ 20000 := by
  cases e with
  | mv t =>
    cases t with
    | matter t =>
      have h1 := textWs_len h.1
      have h2 : t.length ≤ 100 := h.2
      show (textWs t).length + 1 ≤ _
      omega
    | change e =>
      have := edWs_len (wf_change h)
      show (edWs e).length + 1 ≤ _
      omega
    | mend e =>
      have := edWs_len (wf_mend h)
      show (edWs e).length + 1 ≤ _
      omega
    | putOff n => show 3 ≤ _; decide
    | close => show 1 ≤ _; decide
    | lay => show 1 ≤ _; decide
    | rest => show 1 ≤ _; decide
    | point s =>
      have : (wordsC s).length ≤ 100 := (cl_words h).2.2
      show (wordsC s).length + 1 ≤ _
      omega
  | vote a n => show 3 ≤ _; decide
  | drop => show 1 ≤ _; decide
  | take k => show 2 ≤ _; decide
theorem row_each {e : Dd} (h : wfD e) : ∀ w ∈ rowWs e, w.length ≤ 20 := by
  have kl : ∀ k ∈ (["matter", "/", "change", "mend", "put", "cut", "turn", "off", "close", "lay", "rest", "point", "vote", "drop", "take"] : List Str), k.length ≤ 20 := by decide +kernel
  have k1 : ∀ {k : Str} {r : List Str}, k ∈ (["matter", "/", "change", "mend", "put", "cut", "turn", "off", "close", "lay", "rest", "point", "vote", "drop", "take"] : List Str) → (∀ w ∈ r, w.length ≤ 20) → ∀ w ∈ k :: r, w.length ≤ 20 := fun hk hr w hw => by
    rcases List.mem_cons.mp hw with rfl | hw
    · exact kl _ hk
    · exact hr w hw
  have k0 : ∀ w ∈ ([] : List Str), w.length ≤ 20 := fun w hw => by cases hw
  have kn : ∀ {i : Int} {r : List Str}, wfI i → (∀ w ∈ r, w.length ≤ 20) → ∀ w ∈ strI i :: r, w.length ≤ 20 := fun hi hr w hw => by
    rcases List.mem_cons.mp hw with rfl | hw
    · exact Nat.le_trans (strI_len hi.sm) (by decide)
    · exact hr w hw
  have kc : ∀ {c : Str}, IsCl c → ∀ w ∈ wordsC c, w.length ≤ 20 := fun hc w hw => ((cl_words hc).1 w hw).hi
  have ke : ∀ {e : Ed}, wfEd e → ∀ w ∈ edWs e, w.length ≤ 20 := fun {e} he => by
    cases e with
    | cut a => exact k1 (by simp) (kn he.1 k0)
    | put a s => exact k1 (by simp) (kn he.1 (kc (he.2 (show ¬ (("put" : Str) = "cut") by decide))))
    | turn a s => exact k1 (by simp) (kn he.1 (kc (he.2 (show ¬ (("turn" : Str) = "cut") by decide))))
  cases e with
  | mv t =>
    cases t with
    | matter t =>
      refine k1 (by simp) fun w hw => ?_
      obtain ⟨c, hc, hw⟩ := List.mem_flatMap.mp hw
      exact k1 (by simp) (kc (h.1 c hc)) w hw
    | change e => exact k1 (by simp) (ke (wf_change h))
    | mend e => exact k1 (by simp) (ke (wf_mend h))
    | putOff n => exact k1 (by simp) (k1 (by simp) (kn ⟨by have : 1 ≤ n := h.1; omega, by have : n ≤ 999999999 := h.2; show n < 10000000000; omega⟩ k0))
    | close => exact k1 (by simp) k0
    | lay => exact k1 (by simp) k0
    | rest => exact k1 (by simp) k0
    | point s => exact k1 (by simp) (kc h)
  | vote a n => exact k1 (by simp) (kn h.1 (kn h.2 k0))
  | drop => exact k1 (by simp) k0
  | take k => exact k1 (by simp) (kn h k0)
theorem showD_sm {e : Dd} (h : wfD e) : (showD e).length ≤ 900000 ∧ (Txt.split (showD e) sp).length ≤ 99000 := by
  have h1 := row_count h
  rw [showD_row, split_clause (rowWs_ne e) (row_blank h)]
  refine ⟨Nat.le_trans (clause_len _) ?_, by omega⟩
  have := sum_le (f := fun s : Str => s.length) (m := 20) (l := rowWs e) (row_each h)
  omega
/-- a pair whose second is a new list -/
theorem v_tupN {X : Cx} {ro : Ro} {om : Om} {e : Expr} {k : Str} {ds : List D} (h : ∀ (R : RX) (Q : DK), (∀ p, om p = none → Q (.tup [.str k, .obj p]) (ups om p (.lst ds))) → we X R ro om e Q) : wv X ro om e (.tup [.str k, .lst ds]) := .mk fun R Q q => .mk fun om0 H0 t σ H o => by
  refine pE_mono (h R (fun d om1 => ∃ p, d = .tup [.str k, .obj p] ∧ om p = none ∧ om1 = ups om p (.lst ds)) (fun p hp => ⟨p, rfl, hp, rfl⟩) om0 H0 t σ H o) fun v H1 ⟨d, om1, ⟨p, e1, e2, e3⟩, o1, r⟩ => ?_
  subst e1 e3
  obtain ⟨o2, r2⟩ := o1.tree (om1 := om) ups_same
  have r3 := r.mono (Stable.del (a := p))
  obtain ⟨a, xs, rfl, ha, x1, y1, rfl, rx1, x2, y2, rfl, rx2, rfl⟩ := r3
  cases rx2
  rw [dels_ups e2] at o2 r2 ha rx1
  exact ⟨_, _, q, o2, ⟨a, _, rfl, ha, x1, _, rfl, rx1, _, _, rfl, r2, rfl⟩⟩
/-- what tells a deed is a pair of a word and more -/
theorem DdAt.tup {om : Om} {x : D} {e : Dd} (h : DdAt om x e) : ∃ k r, x = .tup (.str k :: r) := by
  cases e with
  | mv t =>
    cases t with
    | matter t => obtain ⟨y, rfl, _⟩ := h; exact ⟨_, _, rfl⟩
    | _ => cases h; exact ⟨_, _, rfl⟩
  | _ => cases h; exact ⟨_, _, rfl⟩
theorem DdAt.pd {om : Om} {x : D} {e : Dd} (h : DdAt om x e) : Pd om x e.p := by
  cases e with
  | mv t =>
    cases t with
    | matter t =>
      obtain ⟨y, rfl, l⟩ := h
      rcases l with rfl | ⟨a, rfl, ha⟩
      · exact Dd.pd (.mv (.matter t))
      · exact Pd.t (.cons (Pd.str _) (.cons (Pd.o ha (PdL.strs _)) .nil))
    | _ => cases h; exact Td.pd _
  | _ => cases h; exact Dd.pd _
/-- a comprehension over pairs, for two names -/
theorem n_lc2 {X : Cx} {ro : Ro} {om : Om} {elt iter : Expr} {scope : Scope} {pos : Pos} {α : Type} {xs : List α} {f1 f2 g : α → D} {Pm : Om → Prop} {xn yn : Str} {p q tp : Pos} {tk : Nat} (i j : Nat) (hij : i ≠ j) {N : List Str} {sc : Scope} (hN : X.N = N) (hsc : X.env.scope = sc) (nd : X.N.Nodup) (hc : X.calm = true)
    (hb : blkB N sc scope [(xn, i), (yn, j)] = true) (hlx : (scope.names.lookup xn == some .local) = true) (hly : (scope.names.lookup yn == some .local) = true)
    (hi : Itd X ro om (.Tuple [.Name xn p, .Name yn q] tk tp) iter (xs.map fun x => .tup [f1 x, f2 x]) Pm) (hP : ∀ om', Ext om om' → Pm om') (hz : xs.length ≤ 100000)
    (he : ∀ (k : Nat) (x : α), xs[k]? = some x → ∀ (s : Shared) (H : Hp) (C : Addr) (cl : List (Str × Addr)) (fp : List Addr) (om' : Om), Ext om om' → wv (X.blk s H scope (compEnvC scope cl C X.env) fp) ((((ro.set j none).set i none).set i (some (f1 x))).set j (some (f2 x))) om' elt (g x)) (hs : ∀ x, foldedSetIterable iter X.env x = pure x := by intro _; rfl) :
    wn X ro om (.ListComp elt [⟨.Tuple [.Name xn p, .Name yn q] tk tp, iter, [], 0⟩] scope pos) (xs.map g) := by
  have ok : BlkOk X.N X.env.scope scope [(xn, i), (yn, j)] := blk_ok hN hsc hb
  refine n_lc (own := [(xn, i), (yn, j)]) (g := gTup X.K 2 (gCons (gName i) (gCons (gName j) gNil))) (U := fun d ro => match d with | .tup [d1, d2] => (ro.set i (some d1)).set j (some d2) | _ => ro) hi hP (by rw [List.length_map, List.length_map]) (by rw [List.length_map]; exact hz) ?_ ?_ ?_ ok ?_ hc nd hs
  · intro s H C cl fp d hd
    obtain ⟨x, _, rfl⟩ := List.mem_map.mp hd
    exact tg_2 i j
  · intro σ v H0 Q h
    obtain ⟨a, ys, e1, hq, hl, v1, r1, e2, v2, r2, e3, e4, hQ⟩ := h
    refine ⟨a, ys, e1, hq, hl, v1, r1, e2, v2, r2, e3, e4, ?_, hQ⟩
    show (((((σ.set j none).set i none).set i (some v1)).set j (some v2)).set j none).set i none = (σ.set j none).set i none
    rw [List.set_set, List.set_set, List.set_comm _ _ hij, List.set_set, List.set_set]
  · intro k d z hd hzz
    obtain ⟨x, hx, rfl⟩ := map_item hd
    obtain ⟨x', hx', rfl⟩ := map_item hzz
    rw [hx] at hx'
    cases hx'
    exact he k x hx
  · intro s H C cl fp
    have ex : (X.blk s H scope (compEnvC scope cl C X.env) fp).env.scope.names.lookup xn = some .local := lookup_relabel_local (beq_iff_eq.mp hlx)
    have ey : (X.blk s H scope (compEnvC scope cl C X.env) fp).env.scope.names.lookup yn = some .local := lookup_relabel_local (beq_iff_eq.mp hly)
    exact pg_tup (X := X.blk s H scope (compEnvC scope cl C X.env) fp) hc (pgs_cons (pg_name nd (ok.ix (xn, i) (by simp)) (.inl ex) (.inr ex)) (pgs_cons (pg_name nd (ok.ix (yn, j) (by simp)) (.inl ey) (.inr ey)) pgs_nil)) rfl rfl
end Mo

set_option Elab.async false
set_option linter.all false
set_option maxRecDepth 100000
set_option maxHeartbeats 4000000
set_option autoImplicit false
/-! A text times a number. -/
namespace Mo
open PySem PySem.Spec PyProof.Rows L2 PySem
theorem op_mul_str {X : Cx} : OpR X (binaryOp .Mult) (fun x y H Q => ∃ i j, x = .str i ∧ y = .int j ∧ MulOk i j ∧ Q (.str (Txt.mul i j)) H) := by
  intro pins s σ H x y v u Q I rx ry h
  obtain ⟨i, j, rfl, rfl, hz, q⟩ := h
  obtain ⟨t, rfl⟩ := rx
  obtain ⟨t', rfl⟩ := ry
  exact SB.mul hz (fun t' tk => ⟨.str (Txt.mul i j), H, I.tok _, ⟨_, rfl⟩, q⟩)
theorem o_mulS {X : Cx} {om : Om} {i : Str} {j : Int} (h : MulOk i j) : Op X om (binaryOp .Mult) (.str i) (.int j) (.str (Txt.mul i j)) := .of op_mul_str fun H v u S rx ry Q q => by cases rx; cases ry; exact ⟨i, j, rfl, rfl, h, q _ rfl⟩
end Mo

set_option Elab.async false
set_option linter.all false
set_option maxRecDepth 100000
set_option maxHeartbeats 4000000
set_option autoImplicit false
/-! Dicts: read, asked, stored, popped, sorted; a list's place stored; three names unpacked; a list that becomes a tree. -/
namespace Mo
open PySem PySem.Spec PyProof.Rows L2
/-- a key as a datum -/
def kD : Key → D
  | .inl i => .int i
  | .inr s => .str s
def dGet (kvs : List (Key × D)) (k : Key) : Option D := (kvs.find? fun kv => decide (kv.1 = k)).map (·.2)
def dHas (kvs : List (Key × D)) (k : Key) : Bool := kvs.any fun kv => decide (kv.1 = k)
def dPut (kvs : List (Key × D)) (k : Key) (d : D) : List (Key × D) := if dHas kvs k = true then kvs.map (fun kv => if kv.1 = k then (kv.1, d) else kv) else kvs ++ [(k, d)]
def dDrop (kvs : List (Key × D)) (k : Key) : List (Key × D) := kvs.filter fun kv => decide (kv.1 ≠ k)
theorem kD_rep {K : PySem.W.Frag} {om : Om} {H : Hp} {k : Key} {v : V} (r : Rep K om H (kD k) v) : v = kV k := by cases k <;> exact r
section
variable {K : PySem.W.Frag} {om : Om} {H : Hp}
theorem dHas_rep {k : Key} : ∀ {kvs : List (Key × D)} {kvs' : List (Key × V)}, kvs'.map (·.1) = kvs.map (·.1) → (kvs'.any fun kv => decide (kv.1 = k)) = dHas kvs k
  | [], [], _ => rfl
  | [], _ :: _, e => by simp at e
  | _ :: _, [], e => by simp at e
  | (g, d) :: r, (g', v) :: r', e => by
    simp only [List.map_cons, List.cons.injEq] at e
    obtain ⟨rfl, e⟩ := e
    have := dHas_rep (k := k) e
    simp only [dHas, List.any_cons] at this ⊢
    rw [this]
theorem dMap_rep {k : Key} {d : D} {v : V} (rv : Rep K om H d v) : ∀ {kvs : List (Key × D)} {kvs' : List (Key × V)}, kvs'.map (·.1) = kvs.map (·.1) → RepL K om H (kvs.map (·.2)) (kvs'.map (·.2)) →
    (kvs'.map fun kv => if kv.1 = k then (kv.1, v) else kv).map (·.1) = (kvs.map fun kv => if kv.1 = k then (kv.1, d) else kv).map (·.1) ∧ RepL K om H ((kvs.map fun kv => if kv.1 = k then (kv.1, d) else kv).map (·.2)) ((kvs'.map fun kv => if kv.1 = k then (kv.1, v) else kv).map (·.2))
  | [], [], _, _ => ⟨rfl, rfl⟩
  | [], _ :: _, e, _ => by simp at e
  | _ :: _, [], e, _ => by simp at e
  | (g, d0) :: r, (g', v0) :: r', e, q => by
    simp only [List.map_cons, List.cons.injEq] at e
    obtain ⟨rfl, e⟩ := e
    obtain ⟨x, t, ex, q1, q2⟩ := q
    simp only [List.map_cons, List.cons.injEq] at ex
    obtain ⟨rfl, rfl⟩ := ex
    obtain ⟨h1, h2⟩ := dMap_rep (k := k) rv e q2
    by_cases z : g' = k
    · simp only [List.map_cons, z, if_true]
      exact ⟨by rw [h1], ⟨_, _, rfl, rv, h2⟩⟩
    · simp only [List.map_cons, z, if_false]
      exact ⟨by rw [h1], ⟨_, _, rfl, q1, h2⟩⟩
theorem dPut_rep {k : Key} {d : D} {v : V} {kvs : List (Key × D)} {kvs' : List (Key × V)} (rv : Rep K om H d v) (e : kvs'.map (·.1) = kvs.map (·.1)) (q : RepL K om H (kvs.map (·.2)) (kvs'.map (·.2))) :
    (putK kvs' k v).map (·.1) = (dPut kvs k d).map (·.1) ∧ RepL K om H ((dPut kvs k d).map (·.2)) ((putK kvs' k v).map (·.2)) := by
  unfold putK dPut
  rw [dHas_rep e]
  by_cases z : dHas kvs k = true
  · rw [if_pos z, if_pos z]
    exact dMap_rep rv e q
  · rw [if_neg z, if_neg z]
    refine ⟨by rw [List.map_append, List.map_append, e]; rfl, ?_⟩
    rw [List.map_append, List.map_append]
    exact q.app (RepL.one rv)
theorem dDrop_rep {k : Key} : ∀ {kvs : List (Key × D)} {kvs' : List (Key × V)}, kvs'.map (·.1) = kvs.map (·.1) → RepL K om H (kvs.map (·.2)) (kvs'.map (·.2)) →
    (dropK kvs' k).map (·.1) = (dDrop kvs k).map (·.1) ∧ RepL K om H ((dDrop kvs k).map (·.2)) ((dropK kvs' k).map (·.2))
  | [], [], _, _ => ⟨rfl, rfl⟩
  | [], _ :: _, e, _ => by simp at e
  | _ :: _, [], e, _ => by simp at e
  | (g, d0) :: r, (g', v0) :: r', e, q => by
    simp only [List.map_cons, List.cons.injEq] at e
    obtain ⟨rfl, e⟩ := e
    obtain ⟨x, t, ex, q1, q2⟩ := q
    simp only [List.map_cons, List.cons.injEq] at ex
    obtain ⟨rfl, rfl⟩ := ex
    obtain ⟨h1, h2⟩ := dDrop_rep (k := k) e q2
    unfold dropK dDrop at h1 h2 ⊢
    by_cases z : g' = k
    · rw [List.filter_cons_of_neg (by simp [z]), List.filter_cons_of_neg (by simp [z])]
      exact ⟨h1, h2⟩
    · rw [List.filter_cons_of_pos (by simp [z]), List.filter_cons_of_pos (by simp [z])]
      exact ⟨by rw [List.map_cons, List.map_cons, h1], ⟨_, _, rfl, q1, h2⟩⟩
theorem dLen {kvs : List (Key × D)} {kvs' : List (Key × V)} (e : kvs'.map (·.1) = kvs.map (·.1)) : kvs'.length = kvs.length := by
  have := congrArg List.length e
  simpa using this
end
section
variable {X : Cx} {R : RX} {ro : Ro} {om : Om} {a b e o i : Expr} {es : List Expr} {F : De} {pos : Pos} {x y z d : D} {rest : List Stmt} {p : Addr} {kvs : List (Key × D)} {k : Key}
theorem op_dIn (hu : X.A.units + 1 < cLine) : OpR X (compareOp .In) (fun x y H Q => ∃ a o, y = .ref a ∧ DGet H a x o ∧ Q (.bl o.isSome) H) := by
  intro pins s σ H x y v u Q I rx ry h
  obtain ⟨a, o, e, g, q⟩ := h
  subst e
  obtain rfl : u = Value.ref a := ry
  exact d_in hu I g rx fun s3 I3 => ⟨.bl o.isSome, H, I3, rfl, q⟩
theorem op_dNotIn (hu : X.A.units + 1 < cLine) : OpR X (compareOp .NotIn) (fun x y H Q => ∃ a o, y = .ref a ∧ DGet H a x o ∧ Q (.bl (!o.isSome)) H) := by
  intro pins s σ H x y v u Q I rx ry h
  obtain ⟨a, o, e, g, q⟩ := h
  subst e
  obtain rfl : u = Value.ref a := ry
  exact d_notIn hu I g rx fun s3 I3 => ⟨.bl (!o.isSome), H, I3, rfl, q⟩
theorem c_inD (hu : X.A.units + 1 < cLine) (h : om p = some (.dct kvs)) : Op X om (compareOp .In) (kD k) (.obj p) (.bl (dHas kvs k)) := .of (op_dIn hu) fun H v u S rx ry Q q => by
  cases kD_rep rx
  cases ry
  obtain ⟨kvs', h1, h2, h3⟩ := S _ _ h
  refine ⟨p, _, rfl, DGet.k h1, q _ ?_⟩
  rw [← valV_any, dHas_rep h2]
  rfl
theorem c_notInD (hu : X.A.units + 1 < cLine) (h : om p = some (.dct kvs)) : Op X om (compareOp .NotIn) (kD k) (.obj p) (.bl (!dHas kvs k)) := .of (op_dNotIn hu) fun H v u S rx ry Q q => by
  cases kD_rep rx
  cases ry
  obtain ⟨kvs', h1, h2, h3⟩ := S _ _ h
  refine ⟨p, _, rfl, DGet.k h1, q _ ?_⟩
  rw [← valV_any, dHas_rep h2]
  rfl
/-- d[k] -/
theorem ix_d (h : om p = some (.dct kvs)) (hz : dGet kvs k = some z) : Ix X om (.obj p) (kD k) z := by
  cases k with
  | inl i => exact ix_dI h hz
  | inr s => exact ix_dS h hz
/-- d[k] = e -/
theorem st_dput {pos' : Pos} (hu : X.A.units + 1 < cLine) (h : wv X ro om e d) (ho : wv X ro om o (.obj p)) (hi : wv X ro om i (kD k)) (hp : om p = some (.dct kvs)) (hl : kvs.length < sizeLine) (nx : ws X F ro (ups om p (.dct (dPut kvs k d))) rest)
    (hs : swapsWith e (some (.Subscript o i pos')) pos.line X.env = pure false := by rfl) : ws X F ro om (.Assign [.Subscript o i pos'] e pos :: rest) := ws_cons <| .mk fun om0 H0 t σ H ok => by
  refine pS_of (ps_dput hu pE_pe pE_pe pE_pe hs) ?_
  refine v_run h t ok fun v H1 o1 r1 => ?_
  refine v_run ho (t.at o1.stab) (om0 := om) (H0 := H1) ⟨o1.store, Stable.refl, o1.slot, o1.len⟩ fun u H2 o2 r2 => ?_
  refine v_run hi (t.at (o1.stab.trans o2.stab)) (om0 := om) (H0 := H2) ⟨o2.store, Stable.refl, o2.slot, o2.len⟩ fun w H3 o3 r3 => ?_
  cases r2
  cases kD_rep r3
  have s3 : Stable om0 H0 om H3 := (o1.stab.trans o2.stab).trans o3.stab
  have ok3 : Ok X.K om0 H0 om H3 σ ro := ⟨o3.store, s3, o3.slot, o3.len⟩
  obtain ⟨kvs', h1, h2, h3⟩ := o3.store _ _ hp
  obtain ⟨q1, q2⟩ := dPut_rep (k := k) ((r1.mono o2.stab).mono o3.stab) h2 h3
  refine ⟨p, _, rfl, DPut.k h1 (by rw [dLen h2]; exact hl), ?_⟩
  exact ⟨_, _, nx, ok3.to (o3.store.put hp ⟨_, upd_same, q1, q2.mono (Stable.put hp)⟩) (Stable.put hp)⟩
/-- {} -/
theorem e_dnew {Q : DK} (q : ∀ p, om p = none → Q (.obj p) (ups om p (.dct []))) : we X R ro om (.Dict [] [] pos) Q := .mk fun om0 H0 t σ H o => by
  refine pE_of pe_dnewK fun p n => ⟨.obj p, _, q p (o.store.fresh n), o.to (o.store.mk n ⟨[], upd_same, rfl, rfl⟩) (Stable.mk n), rfl⟩
/-- d.pop(k) -/
theorem m_dpop {Q : DK} (h : om p = some (.dct kvs)) (hz : dGet kvs k = some z) (q : Q z (ups om p (.dct (dDrop kvs k)))) : M2 X om "dict.pop" (.obj p) [kD k] Q := fun om0 H0 σ ro H v vs o r rv => by
  cases r
  obtain ⟨u, rfl, ru⟩ := one_rep rv
  cases kD_rep ru
  obtain ⟨kvs', h1, h2, h3⟩ := o.store _ _ h
  obtain ⟨w, h4, h5⟩ := valV_of h2 h3 hz
  obtain ⟨q1, q2⟩ := dDrop_rep (k := k) h2 h3
  intro pins s σ' v us I rx rvs
  cases rx
  cases rvs with
  | cons r0 rr =>
    cases rr
    exact d_pop I h1 r0 h4 (.inl rfl) fun w' s' I' rw' => ⟨w, _, I', rw', _, _, q, o.to (o.store.put h ⟨_, upd_same, q1, q2.mono (Stable.put h)⟩) (Stable.put h), h5.mono (Stable.put h)⟩
/-- d.pop(k) as a statement -/
theorem st_dpop {apos cpos : Pos} (ho : wv X ro om o (.obj p)) (he : wv X ro om e (kD k)) (h : om p = some (.dct kvs)) (hz : dGet kvs k = some z) (nx : ws X F ro (ups om p (.dct (dDrop kvs k))) rest)
    (hbase : attributeBase o "pop" X.env (eval o X.env) = eval o X.env := by rfl)
    (hfew : ((backTo cpos (starEach [e] X.env)).all (fun x => !x.1) && (backToKw cpos (keywordEach [] X.env)).all (fun x => x.1.isSome) && decide ([e].length + ([] : List Keyword).length + (if ([] : List Keyword).isEmpty then 0 else 1) < 30)) = true := by rfl)
    (hline : (apos.endLine == cpos.line) = true := by rfl) (hst : starEach [e] X.env = (false, eval e X.env) :: starEach [] X.env := by rfl) (hplain : (backTo cpos (starEach [] X.env)).any (·.1) = false := by rfl)
    (hs : swapsWith (.Call (.Attribute o "pop" apos) [e] [] cpos) none pos.line X.env = pure false := by rfl) : ws X F ro om (.Expr (.Call (.Attribute o "pop" apos) [e] [] cpos) pos :: rest) :=
  st_e (e_bm PySem.F.plainAttrs_dict PySem.F.slot_dict_pop PySem.F.type_dict_pop (ho _ _ ⟨.dct h, a_cons (he _ _ (a_nil (m_dpop h hz nx))) hst⟩) hbase hfew hline hst hplain) hs
/-- sorted(d) -/
theorem b_sortedD {ks : List Int} (hc : X.calm = true) (h : om p = some (.dct kvs)) (hk : kvs.map (·.1) = ks.map Sum.inl) (h64 : ks.length < 64) {zs : List Int} (hz : ∀ ys : List Int, ys.Perm ks → ys.Pairwise (· ≤ ·) → ys = zs) : Cn X om (.builtin "sorted") [.obj p] (zs.map .int) := .of (call_sortedDI hc) fun H vs S r Q q => by
  obtain ⟨u, rfl, ru⟩ := one_rep r
  cases ru
  obtain ⟨kvs', h1, h2, h3⟩ := S _ _ h
  refine ⟨p, kvs', ks, rfl, .inl h1, h2.trans hk, h64, fun ys p n1 n2 n3 => ?_⟩
  cases hz ys n1 n2
  exact q _ _ n3 RepL.of_ints
/-- list(d), the keys ints -/
theorem b_listD {ks : List Int} (hc : X.calm = true) (h : om p = some (.dct kvs)) (hk : kvs.map (·.1) = ks.map Sum.inl) : Cn X om (.type "list") [.obj p] (ks.map .int) := .of (call_listD hc) fun H vs S r Q q => by
  obtain ⟨u, rfl, ru⟩ := one_rep r
  cases ru
  obtain ⟨kvs', h1, h2, h3⟩ := S _ _ h
  refine ⟨p, kvs', rfl, .inl h1, fun p n => ?_⟩
  have e : kvs'.map (fun kv => kV kv.1) = ks.map V.int := by
    have := congrArg (List.map kV) (h2.trans hk)
    rw [List.map_map, List.map_map] at this
    exact this
  rw [e]
  exact q _ _ n RepL.of_ints
/-- xs[i] = e -/
theorem st_lput {pos' : Pos} {ds : List D} {j : Nat} {n : Int} (h : wv X ro om e d) (ho : wv X ro om o (.obj p)) (hi : wv X ro om i (.int n)) (hp : om p = some (.lst ds)) (hj : ixN ds.length n = some j) (nx : ws X F ro (ups om p (.lst (ds.set j d))) rest)
    (ha : ∀ v, assign (.Subscript o i pos') X.env v = (do
      let ov ← holding [v] (eval o X.env)
      let iv ← holding [v, ov] (eval i X.env)
      standAt pos'
      holding [v, ov, iv] (setItem ov iv v)
      release [v, ov, iv] []) := by intro _; rfl)
    (hs : swapsWithSole [.Subscript o i pos'] e pos.line X.env = pure false := by rfl) (hw : swappedStores [.Subscript o i pos'] e X.env = pure none := by rfl)
    (h1 : (assignEach [.Subscript o i pos'] X.env).map (·.2) = [assign (.Subscript o i pos') X.env] := by rfl) : ws X F ro om (.Assign [.Subscript o i pos'] e pos :: rest) := ws_cons <| .mk fun om0 H0 t σ H ok => by
  refine pS_of (ps_asg pE_pe (pg_sub pE_pe pE_pe set_list ha) hs hw h1) ?_
  refine v_run h t ok fun v H1 o1 r1 => ?_
  refine v_run ho (t.at o1.stab) (om0 := om) (H0 := H1) ⟨o1.store, Stable.refl, o1.slot, o1.len⟩ fun u H2 o2 r2 => ?_
  refine v_run hi (t.at (o1.stab.trans o2.stab)) (om0 := om) (H0 := H2) ⟨o2.store, Stable.refl, o2.slot, o2.len⟩ fun w H3 o3 r3 => ?_
  cases r2
  cases r3
  have s3 : Stable om0 H0 om H3 := (o1.stab.trans o2.stab).trans o3.stab
  have ok3 : Ok X.K om0 H0 om H3 σ ro := ⟨o3.store, s3, o3.slot, o3.len⟩
  obtain ⟨xs, h1, h2⟩ := o3.store _ _ hp
  refine ⟨p, xs, n, j, rfl, rfl, h1, by rw [← h2.length]; exact hj, ?_⟩
  exact ⟨_, _, nx, ok3.to (o3.store.put hp ⟨_, upd_same, (h2.set j ((r1.mono o2.stab).mono o3.stab)).mono (Stable.put hp)⟩) (Stable.put hp)⟩
/-- a list in a slot becomes a tree -/
theorem ws_tree {sts : List Stmt} (j : Nat) (q : Addr) {ds : List D} (hr : ro[j]? = some (some (.obj q))) (hq : om q = some (.lst ds)) (h : ws X F (ro.set j (some (.lst ds))) (dels om q) sts) : ws X F ro om sts := .mk fun om0 H0 t σ H o => by
  obtain ⟨v, hv, rv⟩ := o.slot _ _ hr
  cases rv
  obtain ⟨o2, r2⟩ := o.tree (om1 := om) hq
  have o3 := o2.set j r2
  rw [show σ.set j (some (V.ref q)) = σ from by
    have hl := (List.getElem?_eq_some_iff.mp hv).1
    apply List.ext_getElem?
    intro n
    by_cases z : j = n
    · subst z; rw [List.getElem?_set_self hl, hv]
    · rw [List.getElem?_set_ne z]] at o3
  exact h om0 H0 t σ H o3
end
end Mo

set_option Elab.async false
set_option linter.all false
set_option maxRecDepth 100000
set_option maxHeartbeats 4000000
set_option autoImplicit false
/-! The chamber, plainly. -/
namespace Mo
open PySem PySem.Spec PyProof.Rows L2
theorem last_of {α : Type} {l : List α} {a : α} (h : l.getLast? = some a) : l = l.dropLast ++ [a] := by
  obtain ⟨ys, e⟩ := List.getLast?_eq_some_iff.mp h
  subst e
  rw [List.dropLast_concat]
def Ed.setTh (s : Str) : Ed → Ed
  | .put a _ => .put a s
  | .cut a => .cut a
  | .turn a _ => .turn a s
theorem Ed.setTh_fits {n : Nat} {s : Str} {e : Ed} : Ed.fits n (e.setTh s) = Ed.fits n e := by cases e <;> rfl
namespace Mt
def text : Mt → List Str
  | matter _ t _ => t
  | _ => []
/-- the edit of a change with a clause -/
def ed : Mt → Option Ed
  | change (.cut _) => none
  | change e => some e
  | _ => none
def laidBy (e : Ed) : Mt → Mt
  | matter f t ch => matter f (Ed.laid t e) (ch ++ [e])
  | m => m
def mendBy (e : Ed) : Mt → Mt
  | change x => change (x.setTh (clauseC (Ed.laid (wordsC x.th) e)))
  | m => m
def kept (a n : Int) (m : Mt) : Bool := decide (n < a) && (decide (m.need = "more") || decide (2 * n ≤ a))
/-- what wants a matter below -/
def needs : Mt → Bool
  | change _ => true | mend _ => true | putOff _ => true | close => true | lay => true
  | _ => false
theorem rank_lo (m : Mt) : 0 ≤ m.rank := by cases m <;> simp [Mt.rank, Mt.td, Td.rank]
theorem matter_of {m : Mt} (h : m.isMatter = true) : ∃ f t ch, m = matter f t ch := by
  cases m with
  | matter f t ch => exact ⟨f, t, ch, rfl⟩
  | _ => cases h
end Mt
/-- a refusal -/
inductive Rf where
  | bar (b : Int) | noMatter | noChange | noFit | notLater (n : Int) | nothing | tooMany | noAside | notYet (n : Int)
deriving DecidableEq
/-- an answer -/
inductive An where
  | num (i : Int) | word (s : Str)
deriving DecidableEq
structure ChSt where
  seats : Int
  sitting : Int
  closed : Bool
  mots : List Mt
  pile : List Nat
  aside : List (Nat × Int × List Nat)
  decided : List (Nat × Str)
  rows : List Str
namespace ChSt
def new (n : Int) : ChSt := ⟨n, 1, false, [], [], [], [], []⟩
def mt (s : ChSt) (i : Nat) : Mt := s.mots.getD i .close
def on (s : ChSt) : List Mt := s.pile.map s.mt
def bar (s : ChSt) : Int := barOf s.on s.closed
def mat (s : ChSt) : Option Nat := s.pile.find? fun i => (s.mt i).isMatter
def top (s : ChSt) : Option Mt := s.pile.getLast?.map s.mt
def topE (s : ChSt) : Option Ed := s.top.bind Mt.ed
def check (s : ChSt) : Td → Option Rf
  | .matter _ => none
  | .change e => match s.mat with
    | none => some .noMatter
    | some i => if Ed.fits (s.mt i).text.length e = true then none else some .noFit
  | .mend e => match s.mat with
    | none => some .noMatter
    | some _ => match s.topE with
      | none => some .noChange
      | some x => if Ed.fits (wordsC x.th).length e = true then none else some .noFit
  | .putOff n => match s.mat with
    | none => some .noMatter
    | some _ => if n ≤ s.sitting then some (.notLater s.sitting) else none
  | .close => match s.mat with
    | none => some .noMatter
    | some _ => none
  | .lay => match s.mat with
    | none => some .noMatter
    | some _ => none
  | .rest => none
  | .point _ => none
def lack (s : ChSt) (t : Td) : Option Rf := if t.rank ≤ s.bar then some (.bar s.bar) else s.check t
def findA (s : ChSt) (k : Int) : Option (Nat × Int × List Nat) := s.aside.find? fun x => decide ((x.1 : Int) + 1 = k)
def setM (s : ChSt) (i : Nat) (m : Mt) : ChSt := { s with mots := s.mots.set i m }
def setAside (s : ChSt) (u : Int) : ChSt := match s.pile with
  | [] => s
  | h :: r => { s with aside := s.aside ++ [(h, u, h :: r)], pile := [] }
def keep (s : ChSt) : Mt → ChSt
  | .change e => match s.mat with
    | some i => s.setM i ((s.mt i).laidBy e)
    | none => s
  | .mend e => match s.pile.getLast? with
    | some i => s.setM i ((s.mt i).mendBy e)
    | none => s
  | .putOff n => s.setAside n
  | .close => { s with closed := true }
  | .lay => s.setAside s.sitting
  | .rest => { s with sitting := s.sitting + 1 }
  | _ => s
def ended (s : ChSt) (w : Str) : ChSt := match s.pile.getLast? with
  | none => s
  | some i => { s with pile := s.pile.dropLast, decided := s.decided ++ [(i, w)] }
def settle (s : ChSt) : ChSt := if s.pile = [] then { s with closed := false } else s
def dec (s : ChSt) (w : Str) : ChSt := match s.pile.getLast? with
  | none => s
  | some i => (if w = "kept" then (s.ended w).keep (s.mt i) else s.ended w).settle
def note (s : ChSt) (d : Dd) : ChSt := { s with rows := s.rows ++ [showD d] }
def push (s : ChSt) (t : Td) : ChSt := { s with mots := s.mots ++ [t.mk], pile := s.pile ++ [s.mots.length] }
def unside (s : ChSt) (x : Nat × Int × List Nat) : ChSt := { s with aside := s.aside.filter fun y => decide (y.1 ≠ x.1), pile := x.2.2 }
def wd (s : ChSt) (a n : Int) : Str := match s.top with
  | none => "lost"
  | some m => if m.kept a n = true then "kept" else "lost"
def ref (s : ChSt) : Dd → Option Rf
  | .mv t => s.lack t
  | .vote a n => if s.pile = [] then some .nothing else if s.seats < a + n then some .tooMany else none
  | .drop => if s.pile = [] then some .nothing else none
  | .take k => if s.pile ≠ [] then some (.bar s.bar) else match s.findA k with
    | none => some .noAside
    | some x => if s.sitting < x.2.1 then some (.notYet x.2.1) else none
def aft (s : ChSt) : Dd → ChSt
  | .mv t => (s.push t).note (.mv t)
  | .vote a n => (s.dec (s.wd a n)).note (.vote a n)
  | .drop => (s.dec "dropped").note .drop
  | .take k => match s.findA k with
    | none => s
    | some x => (s.unside x).note (.take k)
def ans (s : ChSt) : Dd → An
  | .mv _ => .num ((s.mots.length : Int) + 1)
  | .vote a n => .word (s.wd a n)
  | .drop => .word "dropped"
  | .take k => .num k
/-- the chamber behind a deed -/
def step (s : ChSt) (d : Dd) : ChSt := match s.ref d with
  | none => s.aft d
  | some _ => s
end ChSt
/-! what waits fits -/
structure Good (l : List Mt) : Prop where
  up : l.Pairwise fun a b => a.rank < b.rank
  need : ∀ m ∈ l, m.needs = true → ∃ f t ch r, l = .matter f t ch :: r
  cfit : ∀ e, Mt.change e ∈ l → ∀ f t ch, Mt.matter f t ch ∈ l → Ed.fits t.length e = true
  mfit : ∀ e, Mt.mend e ∈ l → ∃ x, Mt.change x ∈ l ∧ (Mt.change x).ed = some x ∧ Ed.fits (wordsC x.th).length e = true
theorem Good.nil : Good [] := ⟨List.Pairwise.nil, fun _ h => absurd h List.not_mem_nil, fun _ h => absurd h List.not_mem_nil, fun _ h => absurd h List.not_mem_nil⟩
theorem Good.one {f t ch} : Good [Mt.matter f t ch] := by
  refine ⟨by simp, fun m h _ => ⟨f, t, ch, [], rfl⟩, fun e h => ?_, fun e h => ?_⟩
  · rw [List.mem_singleton] at h; cases h
  · rw [List.mem_singleton] at h; cases h
theorem Good.two {f t ch x} (h : Ed.fits t.length x = true) : Good [Mt.matter f t ch, Mt.change x] := by
  refine ⟨?_, fun m h _ => ⟨f, t, ch, _, rfl⟩, fun e h => ?_, fun e h => ?_⟩
  · simp [Mt.rank, Mt.td, Td.rank]
  · intro f' t' ch' h'
    simp only [List.mem_cons, List.not_mem_nil, or_false, reduceCtorEq, false_or] at h h'
    cases h
    cases h'
    assumption
  · simp at h
theorem Good.snoc {l : List Mt} {m : Mt} (g : Good l) (hr : ∀ x ∈ l, x.rank < m.rank) (hn : m.needs = true → ∃ f t ch r, l = Mt.matter f t ch :: r) (hc : ∀ e, m = .change e → ∀ f t ch, Mt.matter f t ch ∈ l → Ed.fits t.length e = true)
    (hm : ∀ e, m = .mend e → ∃ x, Mt.change x ∈ l ∧ (Mt.change x).ed = some x ∧ Ed.fits (wordsC x.th).length e = true) : Good (l ++ [m]) := by
  refine ⟨?_, fun y hy hny => ?_, fun e he f t ch hm' => ?_, fun e he => ?_⟩
  · rw [List.pairwise_append]
    exact ⟨g.up, by simp, fun a ha b hb => by rw [List.mem_singleton] at hb; subst hb; exact hr a ha⟩
  · rcases List.mem_append.mp hy with h | h
    · obtain ⟨f, t, ch, r, e⟩ := g.need y h hny
      exact ⟨f, t, ch, r ++ [m], by rw [e]; rfl⟩
    · rw [List.mem_singleton] at h
      subst h
      obtain ⟨f, t, ch, r, e⟩ := hn hny
      exact ⟨f, t, ch, r ++ [y], by rw [e]; rfl⟩
  · rcases List.mem_append.mp he with h | h
    · rcases List.mem_append.mp hm' with k | k
      · exact g.cfit e h f t ch k
      · rw [List.mem_singleton] at k
        have := hr _ h
        rw [← k] at this
        exact absurd this (by show ¬ ((1 : Int) < 0); decide)
    · rw [List.mem_singleton] at h
      rcases List.mem_append.mp hm' with k | k
      · exact hc e h.symm f t ch k
      · rw [List.mem_singleton] at k
        rw [← h] at k
        cases k
  · rcases List.mem_append.mp he with h | h
    · obtain ⟨x, h1, h2⟩ := g.mfit e h
      exact ⟨x, List.mem_append_left _ h1, h2⟩
    · rw [List.mem_singleton] at h
      obtain ⟨x, h1, h2⟩ := hm e h.symm
      exact ⟨x, List.mem_append_left _ h1, h2⟩
theorem Good.init {l : List Mt} {m : Mt} (g : Good (l ++ [m])) : Good l := by
  have up := List.pairwise_append.mp g.up
  refine ⟨up.1, fun y hy hny => ?_, fun e he f t ch h => g.cfit e (List.mem_append_left _ he) f t ch (List.mem_append_left _ h), fun e he => ?_⟩
  · obtain ⟨f, t, ch, r, e⟩ := g.need y (List.mem_append_left _ hy) hny
    cases l with
    | nil => cases hy
    | cons a l =>
      simp only [List.cons_append, List.cons.injEq] at e
      exact ⟨f, t, ch, l, by rw [e.1]⟩
  · obtain ⟨x, h1, h2⟩ := g.mfit e (List.mem_append_left _ he)
    rcases List.mem_append.mp h1 with k | k
    · exact ⟨x, k, h2⟩
    · rw [List.mem_singleton] at k
      have := up.2.2 _ he m (List.mem_singleton.mpr rfl)
      rw [← k] at this
      exact absurd this (by show ¬ ((2 : Int) < 1); decide)
theorem Good.last {l : List Mt} {m : Mt} (g : Good (l ++ [m])) : ∀ x ∈ l, x.rank < m.rank := fun x hx => (List.pairwise_append.mp g.up).2.2 x hx m (List.mem_singleton.mpr rfl)
/-- below a change stands just the matter -/
theorem Good.below1 {l : List Mt} {e : Ed} (g : Good (l ++ [Mt.change e])) : ∃ f t ch, l = [.matter f t ch] ∧ Ed.fits t.length e = true := by
  obtain ⟨f, t, ch, r, h⟩ := g.need (.change e) (List.mem_append_right _ (List.mem_singleton.mpr rfl)) rfl
  cases l with
  | nil => simp at h
  | cons a l =>
    simp only [List.cons_append, List.cons.injEq] at h
    obtain ⟨rfl, _⟩ := h
    refine ⟨f, t, ch, ?_, g.cfit e (List.mem_append_right _ (List.mem_singleton.mpr rfl)) f t ch (by simp)⟩
    cases l with
    | nil => rfl
    | cons b l =>
      have h1 := g.last b (by simp)
      have h2 := (List.pairwise_cons.mp (List.pairwise_append.mp g.up).1).1 b (by simp)
      have h3 : (0 : Int) < b.rank := h2
      have h4 : b.rank < 1 := h1
      omega
/-- below a mend stand just the matter and the change -/
theorem Good.below2 {l : List Mt} {e : Ed} (g : Good (l ++ [Mt.mend e])) : ∃ f t ch x, l = [.matter f t ch, .change x] ∧ (Mt.change x).ed = some x ∧ Ed.fits (wordsC x.th).length e = true ∧ Ed.fits t.length x = true := by
  obtain ⟨x, hx, h1, h2⟩ := g.mfit e (List.mem_append_right _ (List.mem_singleton.mpr rfl))
  have hx : Mt.change x ∈ l := by
    rcases List.mem_append.mp hx with k | k
    · exact k
    · rw [List.mem_singleton] at k; cases k
  obtain ⟨f, t, ch, r, h⟩ := g.need (.mend e) (List.mem_append_right _ (List.mem_singleton.mpr rfl)) rfl
  cases l with
  | nil => simp at h
  | cons a l =>
    simp only [List.cons_append, List.cons.injEq] at h
    obtain ⟨rfl, _⟩ := h
    have up := List.pairwise_cons.mp (List.pairwise_append.mp g.up).1
    have hx2 : Mt.change x ∈ l := by
      rcases List.mem_cons.mp hx with k | k
      · cases k
      · exact k
    refine ⟨f, t, ch, x, ?_, h1, h2, g.cfit x (List.mem_append_left _ hx) f t ch (by simp)⟩
    have one : ∀ b ∈ l, b.rank = 1 := fun b hb => by
      have h3 : (0 : Int) < b.rank := up.1 b hb
      have h4 : b.rank < 2 := g.last b (List.mem_cons_of_mem _ hb)
      omega
    cases l with
    | nil => cases hx2
    | cons b l =>
      have hb := one b (by simp)
      cases l with
      | nil =>
        rw [List.mem_singleton] at hx2
        rw [hx2]
      | cons c l =>
        have hc := one c (by simp)
        have := (List.pairwise_cons.mp up.2).1 c (by simp)
        omega
structure WF (s : ChSt) : Prop where
  pm : ∀ a, s.pile.count a + (s.aside.flatMap fun x => x.2.2).count a + (s.decided.map (·.1)).count a = if a < s.mots.length then 1 else 0
  hd : ∀ x ∈ s.aside, x.2.2.head? = some x.1
  gp : Good s.on
  ga : ∀ x ∈ s.aside, Good (x.2.2.map s.mt)
  sit : 1 ≤ s.sitting
  clo : s.closed = true → ∃ f t ch r, s.on = Mt.matter f t ch :: r
namespace WF
variable {s : ChSt}
theorem new {n : Int} : WF (.new n) := ⟨fun a => by simp [ChSt.new], fun x h => by simp [ChSt.new] at h, Good.nil, fun x h => by simp [ChSt.new] at h, by show (1 : Int) ≤ 1; decide, fun h => by simp [ChSt.new] at h⟩
theorem lt (h : WF s) {i : Nat} (hi : i ∈ s.pile) : i < s.mots.length := by
  have h1 := h.pm i
  have h2 := List.count_pos_iff.mpr hi
  by_cases z : i < s.mots.length
  · exact z
  · rw [if_neg z] at h1; omega
theorem ltA (h : WF s) {x : Nat × Int × List Nat} (hx : x ∈ s.aside) {i : Nat} (hi : i ∈ x.2.2) : i < s.mots.length := by
  have h1 := h.pm i
  have h2 : 0 < (s.aside.flatMap fun x => x.2.2).count i := List.count_pos_iff.mpr (List.mem_flatMap.mpr ⟨x, hx, hi⟩)
  by_cases z : i < s.mots.length
  · exact z
  · rw [if_neg z] at h1; omega
theorem apart (h : WF s) {x : Nat × Int × List Nat} (hx : x ∈ s.aside) {i : Nat} (hp : i ∈ s.pile) (hi : i ∈ x.2.2) : False := by
  have h1 := h.pm i
  have h2 : 0 < (s.aside.flatMap fun x => x.2.2).count i := List.count_pos_iff.mpr (List.mem_flatMap.mpr ⟨x, hx, hi⟩)
  have h3 := List.count_pos_iff.mpr hp
  split at h1 <;> omega
theorem head_mem (h : WF s) {x : Nat × Int × List Nat} (hx : x ∈ s.aside) : x.1 ∈ x.2.2 := List.mem_of_head? (h.hd x hx)
/-- a number is the head of one list aside alone -/
theorem key_split (h : WF s) {as bs : List (Nat × Int × List Nat)} {x : Nat × Int × List Nat} (e : s.aside = as ++ x :: bs) : ∀ y ∈ as ++ bs, y.1 ≠ x.1 := fun y hy z => by
  have h1 := h.pm x.1
  have hx : x.1 ∈ x.2.2 := h.head_mem (by rw [e]; simp)
  have hy2 : y.1 ∈ y.2.2 := h.head_mem (by rw [e]; rcases List.mem_append.mp hy with k | k <;> simp [k])
  rw [z] at hy2
  have e2 : (s.aside.flatMap fun x => x.2.2).count x.1 = ((as ++ bs).flatMap fun x => x.2.2).count x.1 + x.2.2.count x.1 := by
    rw [e]
    simp only [List.flatMap_append, List.flatMap_cons, List.count_append]
    omega
  have h2 := List.count_pos_iff.mpr hx
  have h3 : 0 < ((as ++ bs).flatMap fun x => x.2.2).count x.1 := List.count_pos_iff.mpr (List.mem_flatMap.mpr ⟨y, hy, hy2⟩)
  split at h1 <;> omega
theorem keys_nodup (h : WF s) : (s.aside.map (·.1)).Nodup := by
  rw [List.nodup_iff_count]
  intro a
  by_cases ha : a ∈ s.aside.map (·.1)
  · obtain ⟨x, hx, rfl⟩ := List.mem_map.mp ha
    obtain ⟨as, bs, e⟩ := List.append_of_mem hx
    have k := h.key_split e
    rw [e, List.map_append, List.map_cons, List.count_append, List.count_cons_self]
    have h1 : (as.map (·.1)).count x.1 = 0 := List.count_eq_zero.mpr fun z => by
      obtain ⟨y, hy, e⟩ := List.mem_map.mp z
      exact k y (List.mem_append_left _ hy) e
    have h2 : (bs.map (·.1)).count x.1 = 0 := List.count_eq_zero.mpr fun z => by
      obtain ⟨y, hy, e⟩ := List.mem_map.mp z
      exact k y (List.mem_append_right _ hy) e
    omega
  · rw [List.count_eq_zero.mpr ha]
    omega
theorem unside_eq (h : WF s) {as bs : List (Nat × Int × List Nat)} {x : Nat × Int × List Nat} (e : s.aside = as ++ x :: bs) : (s.aside.filter fun y => decide (y.1 ≠ x.1)) = as ++ bs := by
  have k := h.key_split e
  rw [e, List.filter_append, List.filter_cons_of_neg (by simp), List.filter_eq_self.mpr, List.filter_eq_self.mpr]
  · intro y hy; simpa using k y (List.mem_append_right _ hy)
  · intro y hy; simpa using k y (List.mem_append_left _ hy)
end WF
theorem ChSt.mt_lt {s : ChSt} {i : Nat} (h : i < s.mots.length) : s.mots[i]? = some (s.mt i) := by
  unfold ChSt.mt
  rw [List.getD_eq_getElem?_getD, List.getElem?_eq_getElem h]
  rfl
theorem ChSt.mt_set {s : ChSt} {i j : Nat} {m : Mt} (h : j ≠ i) : (s.setM i m).mt j = s.mt j := by
  unfold ChSt.mt ChSt.setM
  rw [List.getD_eq_getElem?_getD, List.getD_eq_getElem?_getD]
  show ((s.mots.set i m)[j]?).getD _ = _
  rw [List.getElem?_set_ne (Ne.symm h)]
theorem ChSt.mt_self {s : ChSt} {i : Nat} {m : Mt} (h : i < s.mots.length) : (s.setM i m).mt i = m := by
  unfold ChSt.mt ChSt.setM
  rw [List.getD_eq_getElem?_getD]
  show ((s.mots.set i m)[i]?).getD _ = _
  rw [List.getElem?_set_self h]
  rfl
theorem ChSt.mt_push {s : ChSt} {t : Td} {i : Nat} (h : i < s.mots.length) : (s.push t).mt i = s.mt i := by
  unfold ChSt.mt ChSt.push
  rw [List.getD_eq_getElem?_getD, List.getD_eq_getElem?_getD]
  show ((s.mots ++ [t.mk])[i]?).getD _ = _
  rw [List.getElem?_append_left h]
theorem ChSt.mt_push_self {s : ChSt} {t : Td} : (s.push t).mt s.mots.length = t.mk := by
  unfold ChSt.mt ChSt.push
  rw [List.getD_eq_getElem?_getD]
  show ((s.mots ++ [t.mk])[s.mots.length]?).getD _ = _
  rw [List.getElem?_append_right (Nat.le_refl _)]
  simp
theorem topRank_on {s : ChSt} {m : Mt} (h : m ∈ s.on) (g : Good s.on) : m.rank ≤ topRank s.on := by
  cases e : s.on.getLast? with
  | none => rw [List.getLast?_eq_none_iff.mp e] at h; cases h
  | some y =>
    rw [topRank_some e]
    have e2 := last_of e
    rw [e2] at h g
    rcases List.mem_append.mp h with k | k
    · exact Int.le_of_lt (g.last m k)
    · rw [List.mem_singleton] at k
      rw [k]
      exact Int.le_refl _
theorem top_bar {s : ChSt} : topRank s.on ≤ s.bar := by
  unfold ChSt.bar barOf
  split
  · split <;> omega
  · omega
theorem mat_on {s : ChSt} {i : Nat} (g : Good s.on) (h : s.mat = some i) : ∃ f t ch r, s.pile = i :: r ∧ s.mt i = .matter f t ch := by
  obtain ⟨h1, as, bs, e, h2⟩ := List.find?_eq_some_iff_append.mp h
  obtain ⟨f, t, ch, h3⟩ := Mt.matter_of h1
  cases as with
  | nil => exact ⟨f, t, ch, bs, e, h3⟩
  | cons a as =>
    exfalso
    have up := g.up
    unfold ChSt.on at up
    rw [e, List.cons_append, List.map_cons, List.pairwise_cons] at up
    have := up.1 (s.mt i) (List.mem_map.mpr ⟨i, by simp, rfl⟩)
    rw [h3] at this
    have h4 := Mt.rank_lo (s.mt a)
    have : (s.mt a).rank < 0 := this
    omega
theorem mat_cons {s : ChSt} {i : Nat} {r : List Nat} (h : s.pile = i :: r) (hm : (s.mt i).isMatter = true) : s.mat = some i := by
  unfold ChSt.mat
  rw [h, List.find?_cons, hm]
end Mo

set_option Elab.async false
set_option linter.all false
set_option maxRecDepth 100000
set_option maxHeartbeats 4000000
set_option autoImplicit false
/-! The chamber keeps its forms. -/
namespace Mo
open PySem PySem.Spec PyProof.Rows L2
theorem on_eq {s : ChSt} {ys : List Nat} {i : Nat} (h : s.pile = ys ++ [i]) : s.on = ys.map s.mt ++ [s.mt i] := by
  unfold ChSt.on
  rw [h, List.map_append]
  rfl
theorem map_set {s : ChSt} {i : Nat} {m : Mt} {l : List Nat} (h : i ∉ l) : l.map (s.setM i m).mt = l.map s.mt := List.map_congr_left fun j hj => ChSt.mt_set fun e => h (e ▸ hj)
/-- the top motion decided -/
theorem ended_eq {s : ChSt} {ys : List Nat} {i : Nat} {w : Str} (h : s.pile = ys ++ [i]) : s.ended w = { s with pile := ys, decided := s.decided ++ [(i, w)] } := by
  unfold ChSt.ended
  rw [h, List.getLast?_concat, List.dropLast_concat]
theorem dec_eq {s : ChSt} {ys : List Nat} {i : Nat} {w : Str} (h : s.pile = ys ++ [i]) : s.dec w = (if w = "kept" then (s.ended w).keep (s.mt i) else s.ended w).settle := by
  unfold ChSt.dec
  rw [h, List.getLast?_concat]
theorem aft_take {s : ChSt} {k : Int} {x : Nat × Int × List Nat} (h : s.findA k = some x) : s.aft (.take k) = (s.unside x).note (.take k) := by
  unfold ChSt.aft
  simp only [h]
theorem aft_take0 {s : ChSt} {k : Int} (h : s.findA k = none) : s.aft (.take k) = s := by
  unfold ChSt.aft
  simp only [h]
namespace WF
variable {s : ChSt}
theorem notin (h : WF s) {ys : List Nat} {i : Nat} (e : s.pile = ys ++ [i]) : i ∉ ys := fun z => by
  have h1 := h.pm i
  rw [e, List.count_append] at h1
  have h2 := List.count_pos_iff.mpr z
  have h3 : [i].count i = 1 := by simp
  split at h1 <;> omega
/-- all but the close -/
structure Pre (s : ChSt) : Prop where
  pm : ∀ a, s.pile.count a + (s.aside.flatMap fun x => x.2.2).count a + (s.decided.map (·.1)).count a = if a < s.mots.length then 1 else 0
  hd : ∀ x ∈ s.aside, x.2.2.head? = some x.1
  gp : Good s.on
  ga : ∀ x ∈ s.aside, Good (x.2.2.map s.mt)
  sit : 1 ≤ s.sitting
theorem pre (h : WF s) : Pre s := ⟨h.pm, h.hd, h.gp, h.ga, h.sit⟩
theorem Pre.ended (h : Pre s) {ys : List Nat} {i : Nat} {w : Str} (e : s.pile = ys ++ [i]) : Pre (s.ended w) := by
  rw [ended_eq e]
  refine ⟨fun a => ?_, h.hd, ?_, h.ga, h.sit⟩
  · have h1 := h.pm a
    rw [e, List.count_append] at h1
    show ys.count a + _ + ((s.decided ++ [(i, w)]).map (·.1)).count a = _
    rw [List.map_append, List.count_append]
    show _ + (_ + [i].count a) = _
    rw [← h1]
    show _ + (s.aside.flatMap _).count a + (_ + _) = _
    omega
  · have g := h.gp
    rw [on_eq e] at g
    exact g.init
theorem Pre.apart (h : Pre s) {x : Nat × Int × List Nat} (hx : x ∈ s.aside) {i : Nat} (hp : i ∈ s.pile) : i ∉ x.2.2 := fun hi => by
  have h1 := h.pm i
  have h2 : 0 < (s.aside.flatMap fun x => x.2.2).count i := List.count_pos_iff.mpr (List.mem_flatMap.mpr ⟨x, hx, hi⟩)
  have h3 := List.count_pos_iff.mpr hp
  split at h1 <;> omega
theorem Pre.lt (h : Pre s) {i : Nat} (hi : i ∈ s.pile) : i < s.mots.length := by
  have h1 := h.pm i
  have h2 := List.count_pos_iff.mpr hi
  by_cases z : i < s.mots.length
  · exact z
  · rw [if_neg z] at h1; omega
/-- a motion of the pile is another, the pile good -/
theorem Pre.setM (h : Pre s) {i : Nat} {m : Mt} (hi : i ∈ s.pile) (g : Good ((s.setM i m).on)) : Pre (s.setM i m) := by
  refine ⟨fun a => ?_, h.hd, g, fun x hx => ?_, h.sit⟩
  · have := h.pm a
    show _ = if a < (s.mots.set i m).length then 1 else 0
    rw [List.length_set]
    exact this
  · rw [map_set (h.apart hx hi)]
    exact h.ga x hx
theorem Pre.setAside (h : Pre s) {u : Int} : Pre (s.setAside u) := by
  unfold ChSt.setAside
  cases e : s.pile with
  | nil => exact h
  | cons a r =>
    refine ⟨fun b => ?_, fun x hx => ?_, Good.nil, fun x hx => ?_, h.sit⟩
    · have h1 := h.pm b
      rw [e] at h1
      rw [← h1]
      show ([] : List Nat).count b + ((s.aside ++ [(a, u, a :: r)]).flatMap fun x => x.2.2).count b + _ = _
      rw [List.flatMap_append, List.count_append]
      simp only [List.flatMap_cons, List.flatMap_nil, List.append_nil, List.count_nil]
      omega
    · rcases List.mem_append.mp hx with k | k
      · exact h.hd x k
      · rw [List.mem_singleton] at k
        subst k
        rfl
    · rcases List.mem_append.mp hx with k | k
      · exact h.ga x k
      · rw [List.mem_singleton] at k
        subst k
        have := h.gp
        unfold ChSt.on at this
        rw [e] at this
        exact this
theorem Pre.settle (h : Pre s) (c : s.closed = true → s.pile = [] ∨ ∃ f t ch r, s.on = Mt.matter f t ch :: r) : WF s.settle := by
  unfold ChSt.settle
  by_cases e : s.pile = []
  · rw [if_pos e]
    exact ⟨h.pm, h.hd, h.gp, h.ga, h.sit, fun z => by cases z⟩
  · rw [if_neg e]
    exact ⟨h.pm, h.hd, h.gp, h.ga, h.sit, fun z => (c z).resolve_left e⟩
/-- what a kept motion wants of the chamber behind its end -/
def KeepOk (s : ChSt) : Mt → Prop
  | .change e => ∃ i f t ch, s.pile = [i] ∧ s.mt i = .matter f t ch ∧ Ed.fits t.length e = true
  | .mend e => ∃ j i f t ch x, s.pile = [j, i] ∧ s.mt j = .matter f t ch ∧ s.mt i = .change x ∧ (Mt.change x).ed = some x ∧ Ed.fits (wordsC x.th).length e = true ∧ Ed.fits t.length x = true
  | .putOff _ => ∃ i r f t ch, s.pile = i :: r ∧ s.mt i = .matter f t ch
  | .close => ∃ i r f t ch, s.pile = i :: r ∧ s.mt i = .matter f t ch
  | .lay => ∃ i r f t ch, s.pile = i :: r ∧ s.mt i = .matter f t ch
  | _ => True
theorem keepOk (h : WF s) {ys : List Nat} {i : Nat} {w : Str} (e : s.pile = ys ++ [i]) : KeepOk (s.ended w) (s.mt i) := by
  have g := h.gp
  rw [on_eq e] at g
  rw [ended_eq e]
  have bel : (s.mt i).needs = true → ∃ j r f t ch, ys = j :: r ∧ s.mt j = .matter f t ch := fun hn => by
    obtain ⟨f, t, ch, r, h1⟩ := g.need _ (List.mem_append_right _ (List.mem_singleton.mpr rfl)) hn
    cases ys with
    | nil =>
      simp only [List.map_nil, List.nil_append, List.cons.injEq] at h1
      rw [h1.1] at hn
      cases hn
    | cons j r =>
      simp only [List.map_cons, List.cons_append, List.cons.injEq] at h1
      exact ⟨j, r, f, t, ch, rfl, h1.1⟩
  cases hm : s.mt i with
  | matter f t ch => trivial
  | rest => trivial
  | point c => trivial
  | change x =>
    rw [hm] at g
    obtain ⟨f, t, ch, h1, h2⟩ := g.below1
    cases ys with
    | nil => cases h1
    | cons j r =>
      cases r with
      | nil => exact ⟨j, f, t, ch, rfl, (List.cons.inj h1).1, h2⟩
      | cons k r => simp at h1
  | mend x =>
    rw [hm] at g
    obtain ⟨f, t, ch, y, h1, h2, h3, h4⟩ := g.below2
    cases ys with
    | nil => cases h1
    | cons j r =>
      cases r with
      | nil => simp at h1
      | cons k r =>
        cases r with
        | nil =>
          simp only [List.map_cons, List.map_nil, List.cons.injEq, and_true] at h1
          exact ⟨j, k, f, t, ch, y, rfl, h1.1, h1.2, h2, h3, h4⟩
        | cons _ _ => simp at h1
  | putOff n =>
    obtain ⟨j, r, f, t, ch, h1, h2⟩ := bel (by rw [hm]; rfl)
    exact ⟨j, r, f, t, ch, h1, h2⟩
  | close =>
    obtain ⟨j, r, f, t, ch, h1, h2⟩ := bel (by rw [hm]; rfl)
    exact ⟨j, r, f, t, ch, h1, h2⟩
  | lay =>
    obtain ⟨j, r, f, t, ch, h1, h2⟩ := bel (by rw [hm]; rfl)
    exact ⟨j, r, f, t, ch, h1, h2⟩
theorem keep_change {i : Nat} {f t : List Str} {ch : List Ed} {e : Ed} (h1 : s.pile = [i]) (h2 : s.mt i = .matter f t ch) : s.keep (.change e) = s.setM i (.matter f (Ed.laid t e) (ch ++ [e])) := by
  have hm : s.mat = some i := mat_cons h1 (by rw [h2]; rfl)
  unfold ChSt.keep
  simp only [hm, h2, Mt.laidBy]
theorem keep_mend {i j : Nat} {x e : Ed} (h1 : s.pile = [j, i]) (h2 : s.mt i = .change x) : s.keep (.mend e) = s.setM i (.change (x.setTh (clauseC (Ed.laid (wordsC x.th) e)))) := by
  unfold ChSt.keep
  simp only [h1, List.getLast?_cons_cons, List.getLast?_singleton, h2, Mt.mendBy]
theorem Pre.keep (h : Pre s) {m : Mt} (k : KeepOk s m) : Pre (s.keep m) := by
  cases m with
  | matter f t ch => exact h
  | point c => exact h
  | change e =>
    obtain ⟨i, f, t, ch, h1, h2, h3⟩ := k
    rw [keep_change h1 h2]
    have hi : i ∈ s.pile := by rw [h1]; simp
    refine h.setM hi ?_
    unfold ChSt.on
    rw [show (s.setM i (.matter f (Ed.laid t e) (ch ++ [e]))).pile = [i] from h1, List.map_cons, List.map_nil, ChSt.mt_self (h.lt hi)]
    exact Good.one
  | mend e =>
    obtain ⟨j, i, f, t, ch, x, h1, h2, h3, h4, h5, h6⟩ := k
    rw [keep_mend h1 h3]
    have hi : i ∈ s.pile := by rw [h1]; simp
    have hji : j ≠ i := fun z => by rw [z, h3] at h2; cases h2
    refine h.setM hi ?_
    unfold ChSt.on
    rw [show (s.setM i (.change (x.setTh (clauseC (Ed.laid (wordsC x.th) e))))).pile = [j, i] from h1, List.map_cons, List.map_cons, List.map_nil, ChSt.mt_self (h.lt hi), ChSt.mt_set hji, h2]
    exact Good.two (by rw [Ed.setTh_fits]; exact h6)
  | putOff n => exact h.setAside
  | lay => exact h.setAside
  | close => exact ⟨h.pm, h.hd, h.gp, h.ga, h.sit⟩
  | rest => exact ⟨h.pm, h.hd, h.gp, h.ga, by have := h.sit; show 1 ≤ s.sitting + 1; omega⟩
/-- the close is lawful behind a kept motion -/
theorem dec (h : WF s) (w : Str) : WF (s.dec w) := by
  cases e : s.pile.getLast? with
  | none =>
    unfold ChSt.dec
    rw [e]
    exact h
  | some i =>
    have e := last_of e
    rw [dec_eq e]
    have hP := h.pre.ended (w := w) e
    have k := h.keepOk (w := w) e
    have hon : (s.ended w).on = s.pile.dropLast.map s.mt := by rw [ended_eq e]; rfl
    have hp : (s.ended w).pile = s.pile.dropLast := by rw [ended_eq e]
    have hc : (s.ended w).closed = s.closed := by rw [ended_eq e]
    have base : s.closed = true → (s.ended w).pile = [] ∨ ∃ f t ch r, (s.ended w).on = Mt.matter f t ch :: r := fun z => by
      obtain ⟨f, t, ch, r, h1⟩ := h.clo z
      rw [on_eq e] at h1
      rw [hon, hp]
      cases hy : s.pile.dropLast with
      | nil => exact .inl rfl
      | cons a l =>
        rw [hy, List.map_cons, List.cons_append, List.cons.injEq] at h1
        exact .inr ⟨f, t, ch, _, by rw [List.map_cons, h1.1]⟩
    by_cases hw : w = "kept"
    · rw [if_pos hw]
      have base2 := base
      rw [← hc] at base2
      refine (hP.keep k).settle ?_
      cases hm : s.mt i with
      | matter f t ch => exact base2
      | point c => exact base2
      | rest => exact base2
      | change x =>
        rw [hm] at k
        obtain ⟨i, f, t, ch, h1, h2, h3⟩ := k
        rw [keep_change h1 h2]
        intro _
        refine .inr ⟨f, Ed.laid t x, ch ++ [x], [], ?_⟩
        unfold ChSt.on
        rw [show ((s.ended w).setM i (.matter f (Ed.laid t x) (ch ++ [x]))).pile = [i] from h1, List.map_cons, List.map_nil, ChSt.mt_self (hP.lt (by rw [h1]; simp))]
      | mend x =>
        rw [hm] at k
        obtain ⟨j, i, f, t, ch, y, h1, h2, h3, h4, h5, h6⟩ := k
        rw [keep_mend h1 h3]
        intro _
        have hji : j ≠ i := fun z => by rw [z, h3] at h2; cases h2
        refine .inr ⟨f, t, ch, [((s.ended w).setM i (.change (y.setTh (clauseC (Ed.laid (wordsC y.th) x))))).mt i], ?_⟩
        unfold ChSt.on
        rw [show ((s.ended w).setM i (.change (y.setTh (clauseC (Ed.laid (wordsC y.th) x))))).pile = [j, i] from h1, List.map_cons, ChSt.mt_set hji, h2]
        rfl
      | putOff n =>
        rw [hm] at k
        obtain ⟨j, r, f, t, ch, h1, h2⟩ := k
        intro _
        refine .inl ?_
        unfold ChSt.keep ChSt.setAside
        simp only [h1]
      | lay =>
        rw [hm] at k
        obtain ⟨j, r, f, t, ch, h1, h2⟩ := k
        intro _
        refine .inl ?_
        unfold ChSt.keep ChSt.setAside
        simp only [h1]
      | close =>
        rw [hm] at k
        obtain ⟨j, r, f, t, ch, h1, h2⟩ := k
        intro _
        refine .inr ⟨f, t, ch, r.map (s.ended w).mt, ?_⟩
        show (s.ended w).on = _
        unfold ChSt.on
        rw [h1, List.map_cons, h2]
    · rw [if_neg hw]
      refine hP.settle ?_
      rw [hc]
      exact base
theorem note (h : WF s) (d : Dd) : WF (s.note d) := ⟨h.pm, h.hd, h.gp, h.ga, h.sit, h.clo⟩
theorem unside (h : WF s) (hp : s.pile = []) {x : Nat × Int × List Nat} (hx : x ∈ s.aside) : WF (s.unside x) := by
  obtain ⟨as, bs, e⟩ := List.append_of_mem hx
  have e2 := h.unside_eq e
  refine ⟨fun a => ?_, fun y hy => h.hd y ((List.mem_filter.mp hy).1), h.ga x hx, fun y hy => h.ga y ((List.mem_filter.mp hy).1), h.sit, fun z => ?_⟩
  · have h1 := h.pm a
    rw [hp, e] at h1
    refine Eq.trans ?_ h1
    simp only [List.flatMap_append, List.flatMap_cons, List.count_append, List.count_nil]
    show x.2.2.count a + ((s.aside.filter fun y => decide (y.1 ≠ x.1)).flatMap fun x => x.2.2).count a + (s.decided.map (·.1)).count a = _
    rw [e2]
    simp only [List.flatMap_append, List.flatMap_cons, List.count_append, List.count_nil]
    omega
  · obtain ⟨f, t, ch, r, h1⟩ := h.clo z
    unfold ChSt.on at h1
    rw [hp] at h1
    cases h1
theorem push (h : WF s) {t : Td} (hl : s.lack t = none) : WF (s.push t) := by
  have hmap : ∀ {l : List Nat}, (∀ i ∈ l, i < s.mots.length) → l.map (s.push t).mt = l.map s.mt := fun hl => List.map_congr_left fun j hj => ChSt.mt_push (hl j hj)
  have hon : (s.push t).on = s.on ++ [t.mk] := by
    show (s.pile ++ [s.mots.length]).map (s.push t).mt = _
    rw [List.map_append, hmap fun i hi => h.lt hi, List.map_cons, List.map_nil, ChSt.mt_push_self]
    rfl
  unfold ChSt.lack at hl
  by_cases hr : t.rank ≤ s.bar
  · rw [if_pos hr] at hl; cases hl
  rw [if_neg hr] at hl
  have hrk : ∀ x ∈ s.on, x.rank < t.mk.rank := fun x hx => by
    have h1 := topRank_on hx h.gp
    have h2 := top_bar (s := s)
    have h3 : t.mk.rank = t.rank := by unfold Mt.rank; rw [Mt.td_mk]
    omega
  have matOn : ∀ i, s.mat = some i → ∃ f t ch r, s.on = Mt.matter f t ch :: r := fun i hi => by
    obtain ⟨f, t, ch, r, h1, h2⟩ := mat_on h.gp hi
    exact ⟨f, t, ch, r.map s.mt, by unfold ChSt.on; rw [h1, List.map_cons, h2]⟩
  have one : ∀ {i f t ch}, s.mat = some i → Mt.matter f t ch ∈ s.on → (s.mt i).text = t := fun {i f t ch} hi hm => by
    obtain ⟨f', t', ch', r, h1, h2⟩ := mat_on h.gp hi
    have up := h.gp.up
    unfold ChSt.on at up hm
    rw [h1, List.map_cons, h2] at up hm
    rcases List.mem_cons.mp hm with k | k
    · cases k; rw [h2]; rfl
    · have h5 := (List.pairwise_cons.mp up).1 _ k
      exact absurd h5 (by show ¬ ((0 : Int) < 0); decide)
  have g : Good (s.on ++ [t.mk]) := by
    refine h.gp.snoc hrk (fun hn => ?_) (fun e he f t' ch hm => ?_) (fun e he => ?_)
    · cases hs : s.mat with
      | some i => exact matOn i hs
      | none =>
        exfalso
        cases t <;> simp [ChSt.check, hs, Td.mk, Mt.needs] at hl hn
    · cases t <;> simp only [Td.mk, Mt.change.injEq, reduceCtorEq] at he
      subst he
      simp only [ChSt.check] at hl
      split at hl
      · cases hl
      · next i hs =>
        split at hl
        · next hf => rw [one hs hm] at hf; exact hf
        · cases hl
    · cases t <;> simp only [Td.mk, Mt.mend.injEq, reduceCtorEq] at he
      subst he
      simp only [ChSt.check] at hl
      split at hl
      · cases hl
      · split at hl
        · cases hl
        · next x hx =>
          split at hl
          · next hf =>
            unfold ChSt.topE ChSt.top at hx
            obtain ⟨m, h1, h2⟩ := Option.bind_eq_some_iff.mp hx
            obtain ⟨i, h3, h4⟩ := Option.map_eq_some_iff.mp h1
            have hm : ∃ y, m = .change y := by
              cases m <;> first | exact ⟨_, rfl⟩ | cases h2
            obtain ⟨y, rfl⟩ := hm
            have hy : y = x := by
              cases y <;> first | exact Option.some.inj h2 | cases h2
            subst hy
            refine ⟨y, ?_, h2, hf⟩
            have := last_of h3
            unfold ChSt.on
            rw [this, List.map_append]
            exact List.mem_append_right _ (by simp [h4])
          · cases hl
  refine ⟨fun a => ?_, h.hd, by rw [hon]; exact g, fun x hx => ?_, h.sit, fun z => ?_⟩
  · have h1 := h.pm a
    show (s.pile ++ [s.mots.length]).count a + _ + _ = if a < (s.mots ++ [t.mk]).length then 1 else 0
    rw [List.count_append, List.length_append, List.length_singleton]
    have h2 : [s.mots.length].count a = if a = s.mots.length then 1 else 0 := by
      rw [List.count_singleton]
      by_cases z : a = s.mots.length
      · subst z; simp
      · rw [if_neg z, if_neg (by simpa using fun e => z e.symm)]
    rw [h2]
    show _ + (s.aside.flatMap _).count a + (s.decided.map _).count a = _
    split at h1 <;> split <;> split <;> omega
  · rw [hmap fun i hi => h.ltA hx hi]
    exact h.ga x hx
  · obtain ⟨f, t', ch, r, h1⟩ := h.clo z
    exact ⟨f, t', ch, r ++ [t.mk], by rw [hon, h1]; rfl⟩
theorem step (h : WF s) (d : Dd) : WF (s.step d) := by
  unfold ChSt.step
  cases hr : s.ref d with
  | some r => exact h
  | none =>
    show WF (s.aft d)
    cases d with
    | mv t => exact (h.push hr).note _
    | vote a n => exact (h.dec _).note _
    | drop => exact (h.dec _).note _
    | take k =>
      cases hf : s.findA k with
      | none => rw [aft_take0 hf]; exact h
      | some x =>
        rw [aft_take hf]
        have hp : s.pile = [] := by
          unfold ChSt.ref at hr
          by_cases e : s.pile = []
          · exact e
          · simp only [if_pos e] at hr; cases hr
        exact (h.unside hp (List.mem_of_find?_eq_some hf)).note _
end WF
/-! sizes -/
def okT : Td → Prop
  | .matter t => (t.map (·.length)).sum + t.length ≤ 100000
  | .change e => e.th.length ≤ 10000 ∧ e.at_ < 10 ^ 12
  | .mend e => e.th.length ≤ 99 ∧ e.at_ < 10 ^ 12
  | .putOff n => n < 10 ^ 12
  | .point s => s.length ≤ 100000
  | _ => True
def okD : Dd → Prop
  | .mv t => okT t
  | .vote a n => smI a ∧ smI n
  | .drop => True
  | .take k => k < 10 ^ 12
def bdM (N : Nat) : Mt → Prop
  | .matter f t ch => f.length ≤ 100000 ∧ t.length ≤ 100000 + N ∧ ch.length ≤ N
  | .change e => e.th.length ≤ 10000 + 200 * N
  | .mend e => e.th.length ≤ 99
  | _ => True
structure Bnd (N : Nat) (s : ChSt) : Prop where
  ml : s.mots.length ≤ N
  rl : s.rows.length ≤ N
  dl : s.decided.length ≤ N
  al : s.aside.length ≤ N
  mb : ∀ m ∈ s.mots, bdM N m
theorem bdM.mono {N M : Nat} (h : N ≤ M) : ∀ {m : Mt}, bdM N m → bdM M m
  | .matter f t ch, ⟨a, b, c⟩ => ⟨a, by omega, by omega⟩
  | .change e, a => by show _ ≤ _; have : e.th.length ≤ 10000 + 200 * N := a; omega
  | .mend e, a => a
  | .putOff _, _ => trivial | .close, _ => trivial | .lay, _ => trivial | .rest, _ => trivial | .point _, _ => trivial
theorem Bnd.mono {N M : Nat} {s : ChSt} (h : N ≤ M) (b : Bnd N s) : Bnd M s := ⟨by have := b.ml; omega, by have := b.rl; omega, by have := b.dl; omega, by have := b.al; omega, fun m hm => (b.mb m hm).mono h⟩
theorem bd_new {N : Nat} {n : Int} : Bnd N (.new n) := ⟨Nat.zero_le _, Nat.zero_le _, Nat.zero_le _, Nat.zero_le _, fun m h => by simp [ChSt.new] at h⟩
theorem laid_size {zs : List Str} {e : Ed} : ((Ed.laid zs e).map (·.length)).sum + (Ed.laid zs e).length ≤ (zs.map (·.length)).sum + zs.length + e.th.length + 1 := by
  have cut : ∀ n : Nat, ((zs.take n).map (·.length)).sum + (zs.take n).length + (((zs.drop n).map (·.length)).sum + (zs.drop n).length) = (zs.map (·.length)).sum + zs.length := fun n => by
    have := congrArg (fun l : List Str => (l.map (·.length)).sum + l.length) (List.take_append_drop n zs)
    simp only [List.map_append, List.sum_append, List.length_append] at this ⊢
    omega
  have drop1 : ∀ n : Nat, ((zs.drop (n + 1)).map (·.length)).sum + (zs.drop (n + 1)).length ≤ ((zs.drop n).map (·.length)).sum + (zs.drop n).length := fun n => by
    rw [show zs.drop (n + 1) = (zs.drop n).drop 1 from by rw [List.drop_drop]]
    cases zs.drop n with
    | nil => simp
    | cons a l => simp; omega
  cases e with
  | put a s =>
    have := cut a.toNat
    simp only [Ed.laid, Ed.th, List.map_append, List.sum_append, List.length_append, List.map_cons, List.map_nil, List.sum_cons, List.sum_nil, List.length_cons, List.length_nil]
    omega
  | cut a =>
    have := cut a.toNat
    have := drop1 a.toNat
    simp only [Ed.laid, Ed.th, List.map_append, List.sum_append, List.length_append]
    omega
  | turn a s =>
    have := cut a.toNat
    have := drop1 a.toNat
    simp only [Ed.laid, Ed.th, List.map_append, List.sum_append, List.length_append, List.map_cons, List.map_nil, List.sum_cons, List.sum_nil, List.length_cons, List.length_nil]
    omega
theorem Mt.laid_bd {N : Nat} {e : Ed} : ∀ {m : Mt}, bdM N m → bdM (N + 1) (m.laidBy e)
  | .matter f t ch, ⟨a, b, c⟩ => ⟨a, by have := Ed.laid_len (zs := t) (e := e); omega, by rw [List.length_append]; simp only [List.length_singleton]; omega⟩
  | .change x, h => bdM.mono (m := .change x) (by omega) h
  | .mend _, h => h
  | .putOff _, _ => trivial | .close, _ => trivial | .lay, _ => trivial | .rest, _ => trivial | .point _, _ => trivial
theorem Mt.mend_bd {N : Nat} {e : Ed} (he : e.th.length ≤ 99) : ∀ {m : Mt}, bdM N m → bdM (N + 1) (m.mendBy e)
  | .matter f t ch, h => bdM.mono (m := .matter f t ch) (by omega) h
  | .change x, h => by
    have h : x.th.length ≤ 10000 + 200 * N := h
    have h1 := wordsC_size x.th
    have h2 := laid_size (zs := wordsC x.th) (e := e)
    have h3 := clause_len (Ed.laid (wordsC x.th) e)
    show (x.setTh _).th.length ≤ 10000 + 200 * (N + 1)
    have h4 : (x.setTh (clauseC (Ed.laid (wordsC x.th) e))).th.length ≤ (clauseC (Ed.laid (wordsC x.th) e)).length := by
      cases x with
      | put a s => exact Nat.le_refl _
      | cut a => show ("" : Str).length ≤ _; rw [show ("" : Str).length = 0 by decide +kernel]; exact Nat.zero_le _
      | turn a s => exact Nat.le_refl _
    omega
  | .mend _, h => h
  | .putOff _, _ => trivial | .close, _ => trivial | .lay, _ => trivial | .rest, _ => trivial | .point _, _ => trivial
namespace Bnd
variable {N : Nat} {s : ChSt}
theorem setM (b : Bnd N s) {i : Nat} {m : Mt} (h : bdM (N + 1) m) : Bnd (N + 1) (s.setM i m) := by
  have b' := b.mono (M := N + 1) (by omega)
  refine ⟨by show (s.mots.set i m).length ≤ _; rw [List.length_set]; exact b'.ml, b'.rl, b'.dl, b'.al, fun y hy => ?_⟩
  rcases List.mem_or_eq_of_mem_set hy with k | k
  · exact b'.mb y k
  · rw [k]; exact h
theorem mt (b : Bnd N s) {i : Nat} (h : i < s.mots.length) : bdM N (s.mt i) := b.mb _ (List.mem_of_getElem? (ChSt.mt_lt h))
theorem setAside (b : Bnd N s) {u : Int} : Bnd (N + 1) (s.setAside u) := by
  have b' := b.mono (M := N + 1) (by omega)
  unfold ChSt.setAside
  split
  · exact b'
  · refine ⟨b'.ml, b'.rl, b'.dl, ?_, b'.mb⟩
    show (s.aside ++ [_]).length ≤ _
    rw [List.length_append, List.length_singleton]
    have := b.al
    omega
theorem settle (b : Bnd N s) : Bnd N s.settle := by
  unfold ChSt.settle
  split
  · exact ⟨b.ml, b.rl, b.dl, b.al, b.mb⟩
  · exact b
theorem keep (b : Bnd N s) {m : Mt} (hm : bdM N m) (k : WF.KeepOk s m) (hl : ∀ i ∈ s.pile, i < s.mots.length) : Bnd (N + 1) (s.keep m) := by
  have b' := b.mono (M := N + 1) (by omega)
  cases m with
  | matter f t ch => exact b'
  | point c => exact b'
  | rest => exact ⟨b'.ml, b'.rl, b'.dl, b'.al, b'.mb⟩
  | close => exact ⟨b'.ml, b'.rl, b'.dl, b'.al, b'.mb⟩
  | putOff n => exact b.setAside
  | lay => exact b.setAside
  | change e =>
    obtain ⟨i, f, t, ch, h1, h2, h3⟩ := k
    rw [WF.keep_change h1 h2]
    refine b.setM ?_
    have := b.mt (hl i (by rw [h1]; simp))
    rw [h2] at this
    exact Mt.laid_bd (e := e) this
  | mend e =>
    obtain ⟨j, i, f, t, ch, x, h1, h2, h3, h4, h5, h6⟩ := k
    rw [WF.keep_mend h1 h3]
    refine b.setM ?_
    have := b.mt (hl i (by rw [h1]; simp))
    rw [h3] at this
    exact Mt.mend_bd (e := e) hm this
theorem dec (b : Bnd N s) (h : WF s) (w : Str) : s.rows.length + 1 ≤ N + 1 → Bnd (N + 1) (s.dec w) := fun _ => by
  cases e : s.pile.getLast? with
  | none =>
    unfold ChSt.dec
    rw [e]
    exact b.mono (by omega)
  | some i =>
    have hi : i < s.mots.length := h.lt (List.mem_of_getLast? e)
    have e := last_of e
    rw [dec_eq e]
    have hP := h.pre.ended (w := w) e
    have k := h.keepOk (w := w) e
    refine settle ?_
    by_cases hw : w = "kept"
    · rw [if_pos hw]
      have b1 := (show Bnd N { s.ended w with decided := [] } from by rw [ended_eq e]; exact ⟨b.ml, b.rl, Nat.zero_le _, b.al, b.mb⟩)
      have b2 := b1.keep (m := s.mt i) (b.mt hi) (by
        cases hm : s.mt i <;> rw [hm] at k <;> exact k) (fun j hj => hP.lt hj)
      have hd : (({ s.ended w with decided := [] } : ChSt).keep (s.mt i)).mots = ((s.ended w).keep (s.mt i)).mots ∧ (({ s.ended w with decided := [] } : ChSt).keep (s.mt i)).rows = ((s.ended w).keep (s.mt i)).rows ∧
          (({ s.ended w with decided := [] } : ChSt).keep (s.mt i)).aside = ((s.ended w).keep (s.mt i)).aside ∧ ((s.ended w).keep (s.mt i)).decided = (s.ended w).decided := by
        generalize s.ended w = v
        cases s.mt i with
        | change e =>
          unfold ChSt.keep
          show _
          have hmat : ({ v with decided := [] } : ChSt).mat = v.mat := rfl
          simp only [hmat]
          cases v.mat <;> exact ⟨rfl, rfl, rfl, rfl⟩
        | mend e =>
          unfold ChSt.keep
          simp only
          cases v.pile.getLast? <;> exact ⟨rfl, rfl, rfl, rfl⟩
        | putOff n =>
          unfold ChSt.keep ChSt.setAside
          simp only
          cases v.pile <;> exact ⟨rfl, rfl, rfl, rfl⟩
        | lay =>
          unfold ChSt.keep ChSt.setAside
          simp only
          cases v.pile <;> exact ⟨rfl, rfl, rfl, rfl⟩
        | _ => exact ⟨rfl, rfl, rfl, rfl⟩
      refine ⟨by rw [← hd.1]; exact b2.ml, by rw [← hd.2.1]; exact b2.rl, ?_, by rw [← hd.2.2.1]; exact b2.al, by rw [← hd.1]; exact b2.mb⟩
      rw [hd.2.2.2, ended_eq e]
      show (s.decided ++ [_]).length ≤ _
      rw [List.length_append, List.length_singleton]
      have := b.dl
      omega
    · rw [if_neg hw, ended_eq e]
      have b' := b.mono (M := N + 1) (by omega)
      refine ⟨b'.ml, b'.rl, ?_, b'.al, b'.mb⟩
      show (s.decided ++ [_]).length ≤ _
      rw [List.length_append, List.length_singleton]
      have := b.dl
      omega
theorem dec_rows {w : Str} : (s.dec w).rows = s.rows := by
  unfold ChSt.dec
  cases hl : s.pile.getLast? with
  | none => rfl
  | some i =>
    have e1 : ∀ v : ChSt, v.settle.rows = v.rows := fun v => by unfold ChSt.settle; split <;> rfl
    have e2 : ∀ (v : ChSt) (m : Mt), (v.keep m).rows = v.rows := fun v m => by
      cases m with
      | change e => unfold ChSt.keep; simp only; cases v.mat <;> rfl
      | mend e => unfold ChSt.keep; simp only; cases v.pile.getLast? <;> rfl
      | putOff n => unfold ChSt.keep ChSt.setAside; simp only; cases v.pile <;> rfl
      | lay => unfold ChSt.keep ChSt.setAside; simp only; cases v.pile <;> rfl
      | _ => rfl
    have e3 : (s.ended w).rows = s.rows := by unfold ChSt.ended; rw [hl]
    simp only
    rw [e1]
    split
    · rw [e2, e3]
    · exact e3
theorem note (b : Bnd N s) (d : Dd) (hr : s.rows.length + 1 ≤ N) : Bnd N (s.note d) := ⟨b.ml, by show (s.rows ++ [_]).length ≤ _; rw [List.length_append, List.length_singleton]; exact hr, b.dl, b.al, b.mb⟩
theorem push (b : Bnd N s) {t : Td} (ht : okT t) : Bnd (N + 1) (s.push t) := by
  have b' := b.mono (M := N + 1) (by omega)
  refine ⟨?_, b'.rl, b'.dl, b'.al, fun m hm => ?_⟩
  · show (s.mots ++ [_]).length ≤ _
    rw [List.length_append, List.length_singleton]
    have := b.ml
    omega
  · rcases List.mem_append.mp hm with k | k
    · exact b'.mb m k
    · rw [List.mem_singleton] at k
      subst k
      cases t with
      | matter t =>
        have ht : (t.map (·.length)).sum + t.length ≤ 100000 := ht
        exact ⟨by omega, by omega, Nat.zero_le _⟩
      | change e =>
        have := ht.1
        show e.th.length ≤ _
        omega
      | mend e => exact ht.1
      | _ => trivial
theorem step (b : Bnd N s) (h : WF s) {d : Dd} (hd : okD d) : Bnd (N + 1) (s.step d) := by
  have b' := b.mono (M := N + 1) (by omega)
  have hr1 : s.rows.length + 1 ≤ N + 1 := by have := b.rl; omega
  unfold ChSt.step
  cases hr : s.ref d with
  | some r => exact b'
  | none =>
    show Bnd (N + 1) (s.aft d)
    cases d with
    | mv t => exact (b.push hd).note _ hr1
    | vote a n => exact (b.dec h _ hr1).note _ (by rw [dec_rows]; exact hr1)
    | drop => exact (b.dec h _ hr1).note _ (by rw [dec_rows]; exact hr1)
    | take k =>
      cases hf : s.findA k with
      | none => rw [aft_take0 hf]; exact b'
      | some x =>
        rw [aft_take hf]
        refine note (s := s.unside x) ⟨b'.ml, b'.rl, b'.dl, ?_, b'.mb⟩ _ hr1
        exact Nat.le_trans (List.length_filter_le _ _) b'.al
end Bnd
end Mo

set_option Elab.async false
set_option linter.all false
set_option maxRecDepth 100000
set_option maxHeartbeats 4000000
set_option autoImplicit false
/-! Where a chamber's objects stand. -/
namespace Mo
open PySem PySem.Spec PyProof.Rows L2
inductive Lb where
  | c | mo | pi | as | de | ro | m (i : Nat) | q (i : Nat) | ap (h : Nat)
deriving DecidableEq
abbrev La := Lb → Addr
abbrev Ct := Lb → Option DO
def La.put (L : La) (l : Lb) (a : Addr) : La := fun k => if k = l then a else L k
theorem La.put_self {L : La} {l : Lb} {a : Addr} : L.put l a l = a := if_pos rfl
theorem La.put_ne {L : La} {l k : Lb} {a : Addr} (h : k ≠ l) : L.put l a k = L k := if_neg h
structure Lay (L : La) (ct : Ct) (om : Om) : Prop where
  has : ∀ l o, ct l = some o → om (L l) = some o
  inj : ∀ l l', ct l ≠ none → ct l' ≠ none → L l = L l' → l = l'
def Out (L : La) (ct : Ct) (b : Addr) : Prop := ∀ l, ct l ≠ none → b ≠ L l
/-- what stands elsewhere stays, and stays elsewhere -/
structure Fr (L : La) (ct : Ct) (om : Om) (L' : La) (ct' : Ct) (om' : Om) : Prop where
  go : ∀ b o, om b = some o → Out L ct b → om' b = some o ∧ Out L' ct' b
section
variable {L L1 L2' : La} {ct ct1 ct2 : Ct} {om om1 om2 : Om} {l : Lb} {o : DO} {a : Addr}
theorem Fr.refl : Fr L ct om L ct om := ⟨fun _ _ h n => ⟨h, n⟩⟩
theorem Fr.trans (f : Fr L ct om L1 ct1 om1) (g : Fr L1 ct1 om1 L2' ct2 om2) : Fr L ct om L2' ct2 om2 := ⟨fun b o h n => let ⟨h1, n1⟩ := f.go b o h n; g.go b o h1 n1⟩
theorem Fr.ext (E : Ext om om1) : Fr L ct om L ct om1 := ⟨fun b o h n => ⟨E b o h, n⟩⟩
theorem Lay.ne (h : Lay L ct om) {l k : Lb} (hl : ct l ≠ none) (hk : ct k ≠ none) (n : l ≠ k) : L l ≠ L k := fun e => n (h.inj l k hl hk e)
theorem Lay.there (h : Lay L ct om) {l : Lb} (hl : ct l ≠ none) : om (L l) ≠ none := fun e => by
  cases z : ct l with
  | none => exact hl z
  | some o => rw [h.has l o z] at e; cases e
theorem Lay.ext (h : Lay L ct om) (E : Ext om om1) : Lay L ct om1 := ⟨fun l o e => E _ _ (h.has l o e), h.inj⟩
theorem Lay.out (h : Lay L ct om) (n : om a = none) : Out L ct a := fun l hl e => h.there hl (e ▸ n)
/-- some places are written -/
theorem Lay.to (h : Lay L ct om) (S : Lb → Prop) (hin : ∀ l o, S l → ct1 l = some o → om1 (L l) = some o) (hout : ∀ l, ¬ S l → ct1 l = ct l) (hS : ∀ l, S l → ct l ≠ none) (keep : ∀ b o, (∀ l, S l → b ≠ L l) → om b = some o → om1 b = some o) :
    Lay L ct1 om1 ∧ Fr L ct om L ct1 om1 := by
  have sub : ∀ l, ct1 l ≠ none → ct l ≠ none := fun l hl => by
    by_cases z : S l
    · exact hS l z
    · rwa [hout l z] at hl
  refine ⟨⟨fun l o e => ?_, fun l l' hl hl' => h.inj l l' (sub l hl) (sub l' hl')⟩, ⟨fun b o e n => ⟨keep b o (fun l hl => n l (hS l hl)) e, fun l hl => n l (sub l hl)⟩⟩⟩
  by_cases z : S l
  · exact hin l o z e
  · rw [hout l z] at e
    exact keep _ o (fun k hk => h.ne (by rw [e]; exact Option.some_ne_none _) (hS k hk) (fun w => z (by rw [w]; exact hk))) (h.has l o e)
theorem Lay.put (h : Lay L ct om) (hl : ct l ≠ none) (e : ∀ k, ct1 k = if k = l then .some o else ct k) : Lay L ct1 (ups om (L l) o) ∧ Fr L ct om L ct1 (ups om (L l) o) := by
  refine h.to (fun k => k = l) (fun k o' hk e' => ?_) (fun k hk => by rw [e k, if_neg hk]) (fun k hk => hk ▸ hl) (fun b o' hb e' => by rw [ups_ne (hb l rfl)]; exact e')
  subst hk
  rw [e k, if_pos rfl] at e'
  cases e'
  exact ups_same
/-- the content is another function, the same where it counts -/
theorem Lay.cong (h : Lay L ct om) (e : ∀ k, ct1 k = ct k) : Lay L ct1 om := by rw [show ct1 = ct from funext e]; exact h
theorem Fr.cong (f : Fr L ct om L1 ct1 om1) (e : ∀ k, ct2 k = ct1 k) : Fr L ct om L1 ct2 om1 := by rw [show ct2 = ct1 from funext e]; exact f
/-- a new place -/
theorem Lay.new (h : Lay L ct om) (hk : ∀ k, k ≠ l → ct k ≠ none → L k ≠ a) (ho : om1 a = .some o) (E : Ext om om1) (e : ∀ k, ct1 k = if k = l then .some o else ct k) : Lay (L.put l a) ct1 om1 := by
  refine ⟨fun k o' e' => ?_, fun k k' h1 h2 h3 => ?_⟩
  · rw [e k] at e'
    by_cases z : k = l
    · subst z
      rw [if_pos rfl] at e'
      cases e'
      rw [La.put_self]
      exact ho
    · rw [if_neg z] at e'
      rw [La.put_ne z]
      exact E _ _ (h.has k o' e')
  · rw [e k] at h1
    rw [e k'] at h2
    by_cases z : k = l
    · by_cases z' : k' = l
      · rw [z, z']
      · rw [if_neg z'] at h2
        rw [z, La.put_self, La.put_ne z'] at h3
        exact absurd h3.symm (hk k' z' h2)
    · rw [if_neg z] at h1
      by_cases z' : k' = l
      · rw [z', La.put_self, La.put_ne z] at h3
        exact absurd h3 (hk k z h1)
      · rw [if_neg z'] at h2
        rw [La.put_ne z, La.put_ne z'] at h3
        exact h.inj k k' h1 h2 h3
theorem Fr.new (hn : om a = none) (E : Ext om om1) (e : ∀ k, ct1 k = if k = l then .some o else ct k) : Fr L ct om (L.put l a) ct1 om1 := ⟨fun b o' hb n => ⟨E _ _ hb, fun k hk => by
  by_cases z : k = l
  · subst z
    rw [La.put_self]
    exact fun w => by rw [w, hn] at hb; cases hb
  · rw [La.put_ne z]
    rw [e k, if_neg z] at hk
    exact n k hk⟩⟩
/-- a place is let go -/
theorem Lay.del (h : Lay L ct om) (e : ∀ k, ct1 k ≠ none → ct1 k = ct k) : Lay L ct1 om :=
  ⟨fun k o ek => h.has k o (by rw [← e k (by rw [ek]; exact Option.some_ne_none _)]; exact ek), fun k k' h1 h2 => h.inj k k' (by rw [← e k h1]; exact h1) (by rw [← e k' h2]; exact h2)⟩
theorem Fr.del (e : ∀ k, ct1 k ≠ none → ct1 k = ct k) : Fr L ct om L ct1 om := ⟨fun b o h n => ⟨h, fun k hk => n k (by rw [← e k hk]; exact hk)⟩⟩
/-- two places change their names -/
def swL (l k : Lb) (x : Lb) : Lb := if x = l then k else if x = k then l else x
theorem swL_swL (l k x : Lb) : swL l k (swL l k x) = x := by
  unfold swL
  by_cases h1 : x = l
  · subst h1
    by_cases h2 : k = x
    · rw [if_pos rfl, if_pos h2, h2]
    · rw [if_pos rfl, if_neg h2, if_pos rfl]
  · by_cases h2 : x = k
    · subst h2
      rw [if_neg h1, if_pos rfl, if_pos rfl]
    · rw [if_neg h1, if_neg h2, if_neg h1, if_neg h2]
theorem Lay.swap (h : Lay L ct om) (l k : Lb) : Lay (fun x => L (swL l k x)) (fun x => ct (swL l k x)) om :=
  ⟨fun x o e => h.has _ o e, fun x y h1 h2 h3 => by
    have := congrArg (swL l k) (h.inj _ _ h1 h2 h3)
    rwa [swL_swL, swL_swL] at this⟩
theorem Fr.swap (l k : Lb) : Fr L ct om (fun x => L (swL l k x)) (fun x => ct (swL l k x)) om := ⟨fun b o h n => ⟨h, fun x hx => n _ hx⟩⟩
end
/-- two layouts have nothing in common -/
def Apart (L : La) (ct : Ct) (L1 : La) (ct1 : Ct) : Prop := ∀ l, ct1 l ≠ none → Out L ct (L1 l)
theorem Lay.fr {L L1 M : La} {ct ct1 cm : Ct} {om om1 : Om} (h : Lay M cm om) (A : Apart L ct M cm) (f : Fr L ct om L1 ct1 om1) : Lay M cm om1 ∧ Apart L1 ct1 M cm := by
  refine ⟨⟨fun l o e => (f.go _ _ (h.has l o e) (A l (by rw [e]; exact Option.some_ne_none _))).1, h.inj⟩, fun l hl => ?_⟩
  cases z : cm l with
  | none => exact absurd z hl
  | some o => exact (f.go _ _ (h.has l o z) (A l hl)).2
theorem Apart.symm {L M : La} {ct cm : Ct} (A : Apart L ct M cm) : Apart M cm L ct := fun l hl k hk e => A k hk l hl e.symm
/-! the chamber -/
abbrev num (i : Nat) : D := .int ((i : Int) + 1)
def nums (l : List Nat) : List D := l.map num
def Mt.chL : Mt → List Ed
  | .matter _ _ ch => ch
  | _ => []
namespace ChSt
def asD (s : ChSt) (L : La) : List (Key × D) := s.aside.map fun x => (.inl ((x.1 : Int) + 1), .tup [.int x.2.1, .obj (L (.ap x.1))])
def deD (s : ChSt) : List D := s.decided.map fun x => .tup [num x.1, .str x.2]
def moD (s : ChSt) (L : La) : List D := (List.range s.mots.length).map fun i => .obj (L (.m i))
def apF (s : ChSt) (h : Nat) : Option DO := (s.aside.find? fun x => decide (x.1 = h)).map fun x => .lst (nums x.2.2)
def fs (s : ChSt) (L : La) : List (Str × D) := [("seats", .int s.seats), ("sitting", .int s.sitting), ("closed", .bl s.closed), ("motions", .obj (L .mo)), ("pile", .obj (L .pi)), ("aside", .obj (L .as)), ("decided", .obj (L .de)), ("rows", .obj (L .ro))]
/-- what stands at the chamber's places -/
def ct (κ : Ka) (C : Addr) (s : ChSt) (L : La) : Ct
  | .c => some (.ins C (s.fs L))
  | .mo => some (.lst (s.moD L))
  | .pi => some (.lst (nums s.pile))
  | .as => some (.dct (s.asD L))
  | .de => some (.lst s.deD)
  | .ro => some (.lst (s.rows.map .str))
  | .m i => s.mots[i]?.map fun m => .ins (m.cls κ) (m.fs (L (.q i)))
  | .q i => s.mots[i]?.bind fun m => m.chs.map fun ch => .lst (ch.map Ed.d)
  | .ap h => s.apF h
def fm (s : ChSt) (L : La) : List (Key × D) := [(.inr "sitting", .int s.sitting), (.inr "closed", .bl s.closed), (.inr "pile", .obj (L .pi)), (.inr "aside", .obj (L .as)), (.inr "decided", .obj (L .de)), (.inr "motions", .obj (L .mo))]
/-- what stands at the places of the laws' own account of a chamber -/
def cm (fs : List D) (s : ChSt) (L : La) : Ct
  | .c => some (.dct (s.fm L))
  | .mo => some (.lst (s.moD L))
  | .pi => some (.lst (nums s.pile))
  | .as => some (.dct (s.asD L))
  | .de => some (.lst s.deD)
  | .ro => none
  | .m i => s.mots[i]?.map fun m => .lst [m.td.d, fs.getD i .non, .obj (L (.q i))]
  | .q i => s.mots[i]?.map fun m => .lst (m.chL.map Ed.d)
  | .ap h => s.apF h
end ChSt
abbrev Ch (κ : Ka) (C : Addr) (L : La) (s : ChSt) (om : Om) : Prop := Lay L (s.ct κ C L) om
abbrev Md (fs : List D) (L : La) (s : ChSt) (om : Om) : Prop := Lay L (s.cm fs L) om
/-- a chamber's next place -/
structure Nx (κ : Ka) (C : Addr) (L : La) (s : ChSt) (om : Om) (L' : La) (s' : ChSt) (om' : Om) : Prop where
  ch : Ch κ C L' s' om'
  fr : Fr L (s.ct κ C L) om L' (s'.ct κ C L') om'
  c : L' .c = L .c
structure Nm (fs : List D) (L : La) (s : ChSt) (om : Om) (fs' : List D) (L' : La) (s' : ChSt) (om' : Om) : Prop where
  ch : Md fs' L' s' om'
  fr : Fr L (s.cm fs L) om L' (s'.cm fs' L') om'
  c : L' .c = L .c
section
variable {κ : Ka} {C : Addr} {L L' L'' : La} {s s' s'' : ChSt} {om om' om'' : Om} {fs fs' fs'' : List D}
theorem Nx.trans (a : Nx κ C L s om L' s' om') (b : Nx κ C L' s' om' L'' s'' om'') : Nx κ C L s om L'' s'' om'' := ⟨b.ch, a.fr.trans b.fr, b.c.trans a.c⟩
theorem Nx.refl (h : Ch κ C L s om) : Nx κ C L s om L s om := ⟨h, Fr.refl, rfl⟩
theorem Nx.ext (h : Ch κ C L s om) (E : Ext om om') : Nx κ C L s om L s om' := ⟨h.ext E, Fr.ext E, rfl⟩
theorem Nm.trans (a : Nm fs L s om fs' L' s' om') (b : Nm fs' L' s' om' fs'' L'' s'' om'') : Nm fs L s om fs'' L'' s'' om'' := ⟨b.ch, a.fr.trans b.fr, b.c.trans a.c⟩
theorem Nm.refl (h : Md fs L s om) : Nm fs L s om fs L s om := ⟨h, Fr.refl, rfl⟩
theorem Ch.hc (h : Ch κ C L s om) : om (L .c) = some (.ins C (s.fs L)) := h.has .c _ rfl
theorem Ch.hmo (h : Ch κ C L s om) : om (L .mo) = some (.lst (s.moD L)) := h.has .mo _ rfl
theorem Ch.hpi (h : Ch κ C L s om) : om (L .pi) = some (.lst (nums s.pile)) := h.has .pi _ rfl
theorem Ch.has_ (h : Ch κ C L s om) : om (L .as) = some (.dct (s.asD L)) := h.has .as _ rfl
theorem Ch.hde (h : Ch κ C L s om) : om (L .de) = some (.lst s.deD) := h.has .de _ rfl
theorem Ch.hro (h : Ch κ C L s om) : om (L .ro) = some (.lst (s.rows.map .str)) := h.has .ro _ rfl
theorem ct_m {i : Nat} (hi : i < s.mots.length) : s.ct κ C L (.m i) = some (.ins ((s.mt i).cls κ) ((s.mt i).fs (L (.q i)))) := by
  show s.mots[i]?.map _ = _
  rw [ChSt.mt_lt hi]
  rfl
theorem ct_q {i : Nat} (hi : i < s.mots.length) : s.ct κ C L (.q i) = (s.mt i).chs.map fun ch => .lst (ch.map Ed.d) := by
  show s.mots[i]?.bind _ = _
  rw [ChSt.mt_lt hi]
  rfl
theorem Ch.hm (h : Ch κ C L s om) {i : Nat} (hi : i < s.mots.length) : (s.mt i).At κ om (L (.m i)) (L (.q i)) :=
  ⟨h.has (.m i) _ (ct_m hi), fun ch e => h.has (.q i) _ (by rw [ct_q hi, e]; rfl)⟩
theorem find_key {l : List (Nat × Int × List Nat)} (nd : (l.map (·.1)).Nodup) : ∀ {x}, x ∈ l → (l.find? fun y => decide (y.1 = x.1)) = some x := by
  induction l with
  | nil => intro x h; cases h
  | cons a l ih =>
    intro x h
    rw [List.map_cons, List.nodup_cons] at nd
    rw [List.find?_cons]
    rcases List.mem_cons.mp h with e | e
    · subst e
      rw [decide_eq_true rfl]
    · by_cases z : a.1 = x.1
      · exact absurd (List.mem_map.mpr ⟨x, e, z.symm⟩) nd.1
      · rw [decide_eq_false z]
        exact ih nd.2 e
theorem apF_at (nd : (s.aside.map (·.1)).Nodup) {x : Nat × Int × List Nat} (hx : x ∈ s.aside) : s.apF x.1 = some (.lst (nums x.2.2)) := by
  unfold ChSt.apF
  rw [find_key nd hx]
  rfl
theorem Ch.hap (h : Ch κ C L s om) (nd : (s.aside.map (·.1)).Nodup) {x : Nat × Int × List Nat} (hx : x ∈ s.aside) : om (L (.ap x.1)) = some (.lst (nums x.2.2)) := h.has (.ap x.1) _ (apF_at nd hx)
theorem Md.hc (h : Md fs L s om) : om (L .c) = some (.dct (s.fm L)) := h.has .c _ rfl
theorem Md.hmo (h : Md fs L s om) : om (L .mo) = some (.lst (s.moD L)) := h.has .mo _ rfl
theorem Md.hpi (h : Md fs L s om) : om (L .pi) = some (.lst (nums s.pile)) := h.has .pi _ rfl
theorem Md.has_ (h : Md fs L s om) : om (L .as) = some (.dct (s.asD L)) := h.has .as _ rfl
theorem Md.hde (h : Md fs L s om) : om (L .de) = some (.lst s.deD) := h.has .de _ rfl
theorem cm_m {i : Nat} (hi : i < s.mots.length) : s.cm fs L (.m i) = some (.lst [(s.mt i).td.d, fs.getD i .non, .obj (L (.q i))]) := by
  show s.mots[i]?.map _ = _
  rw [ChSt.mt_lt hi]
  rfl
theorem cm_q {i : Nat} (hi : i < s.mots.length) : s.cm fs L (.q i) = some (.lst ((s.mt i).chL.map Ed.d)) := by
  show s.mots[i]?.map _ = _
  rw [ChSt.mt_lt hi]
  rfl
theorem Md.hm (h : Md fs L s om) {i : Nat} (hi : i < s.mots.length) : om (L (.m i)) = some (.lst [(s.mt i).td.d, fs.getD i .non, .obj (L (.q i))]) := h.has (.m i) _ (cm_m hi)
theorem Md.hq (h : Md fs L s om) {i : Nat} (hi : i < s.mots.length) : om (L (.q i)) = some (.lst ((s.mt i).chL.map Ed.d)) := h.has (.q i) _ (cm_q hi)
theorem Md.hap (h : Md fs L s om) (nd : (s.aside.map (·.1)).Nodup) {x : Nat × Int × List Nat} (hx : x ∈ s.aside) : om (L (.ap x.1)) = some (.lst (nums x.2.2)) := h.has (.ap x.1) _ (apF_at nd hx)
/-! steps of the chamber -/
/-- the chamber's own fields -/
theorem Ch.setC (h : Ch κ C L s om) (h1 : s'.mots = s.mots) (h2 : s'.pile = s.pile) (h3 : s'.aside = s.aside) (h4 : s'.decided = s.decided) (h5 : s'.rows = s.rows) : Nx κ C L s om L s' (ups om (L .c) (.ins C (s'.fs L))) := by
  obtain ⟨a, b⟩ := h.put (l := .c) (ct1 := s'.ct κ C L) (o := .ins C (s'.fs L)) (Option.some_ne_none _) (fun k => by
    obtain ⟨_, _, _, _, _, _, _, _⟩ := s
    obtain ⟨_, _, _, _, _, _, _, _⟩ := s'
    cases h1; cases h2; cases h3; cases h4; cases h5
    cases k <;> rfl)
  exact ⟨a, b, rfl⟩
theorem Ch.note (h : Ch κ C L s om) (d : Dd) : Nx κ C L s om L (s.note d) (ups om (L .ro) (.lst (s.rows.map .str ++ [.str (showD d)]))) := by
  obtain ⟨a, b⟩ := h.put (l := .ro) (ct1 := (s.note d).ct κ C L) (o := .lst (s.rows.map .str ++ [.str (showD d)])) (Option.some_ne_none _) (fun k => by
    cases k <;> try rfl
    show some (DO.lst ((s.rows ++ [showD d]).map .str)) = _
    rw [List.map_append]
    rfl)
  exact ⟨a, b, rfl⟩
theorem ended_at {ys : List Nat} {i : Nat} {w : Str} (e : s.pile = ys ++ [i]) : (s.ended w).pile = ys ∧ (s.ended w).decided = s.decided ++ [(i, w)] ∧ (s.ended w).mots = s.mots ∧ (s.ended w).aside = s.aside ∧ (s.ended w).rows = s.rows ∧ (s.ended w).fs = s.fs ∧ (s.ended w).fm = s.fm := by
  rw [ended_eq e]
  exact ⟨rfl, rfl, rfl, rfl, rfl, rfl, rfl⟩
theorem Ch.ended (h : Ch κ C L s om) {ys : List Nat} {i : Nat} {w : Str} (e : s.pile = ys ++ [i]) : Nx κ C L s om L (s.ended w) (ups (ups om (L .pi) (.lst (nums ys))) (L .de) (.lst (s.deD ++ [.tup [num i, .str w]]))) := by
  obtain ⟨a, b⟩ := h.put (l := .pi) (o := .lst (nums ys)) (Option.some_ne_none _) (fun k => rfl)
  obtain ⟨a2, b2⟩ := a.put (l := .de) (ct1 := (s.ended w).ct κ C L) (o := .lst (s.deD ++ [.tup [num i, .str w]])) (Option.some_ne_none _) (fun k => by
    rw [ended_eq e]
    cases k <;> try rfl
    show some (DO.lst ((s.decided ++ [(i, w)]).map _)) = _
    rw [List.map_append]
    rfl)
  exact ⟨a2, b.trans b2, rfl⟩
/-- a motion is another, of its own class -/
theorem Ch.setM (h : Ch κ C L s om) {i : Nat} {m : Mt} (hi : i < s.mots.length) (hc : m.chs.isSome = (s.mt i).chs.isSome) (A : m.At κ om' (L (.m i)) (L (.q i))) (k : ∀ b o, b ≠ L (.m i) → ((s.mt i).chs ≠ none → b ≠ L (.q i)) → om b = some o → om' b = some o) : Nx κ C L s om L (s.setM i m) om' := by
  have hq : (s.mt i).chs ≠ none → s.ct κ C L (.q i) ≠ none := fun z => by
    rw [ct_q hi]
    cases hx : (s.mt i).chs with
    | none => exact absurd hx z
    | some ch => exact Option.some_ne_none _
  have hl : i < (s.setM i m).mots.length := by show i < (s.mots.set i m).length; rw [List.length_set]; exact hi
  have hmt := ChSt.mt_self (m := m) hi
  refine (fun (x : Lay L ((s.setM i m).ct κ C L) om' ∧ Fr L (s.ct κ C L) om L ((s.setM i m).ct κ C L) om') => (⟨x.1, x.2, rfl⟩ : Nx κ C L s om L (s.setM i m) om')) (h.to (fun l => l = .m i ∨ (l = .q i ∧ (s.mt i).chs ≠ none)) (ct1 := (s.setM i m).ct κ C L) (om1 := om') (fun l o hS e => ?_) (fun l hS => ?_) (fun l hS => ?_) (fun b o hb e => k b o (hb _ (.inl rfl)) (fun z => hb _ (.inr ⟨rfl, z⟩)) e))
  · rcases hS with rfl | ⟨rfl, z⟩
    · rw [ct_m hl, hmt] at e
      cases e
      exact A.o
    · rw [ct_q hl, hmt] at e
      cases hx : m.chs with
      | none => rw [hx] at e; cases e
      | some ch => rw [hx] at e; cases e; exact A.c ch hx
  · have ne : l ≠ .m i := fun z => hS (.inl z)
    cases l with
    | m j =>
      have hj : i ≠ j := fun z => ne (z ▸ rfl)
      show ((s.mots.set i m)[j]?).map _ = (s.mots[j]?).map _
      rw [List.getElem?_set_ne hj]
    | q j =>
      show ((s.mots.set i m)[j]?).bind _ = (s.mots[j]?).bind _
      by_cases hj : i = j
      · subst hj
        have z : (s.mt i).chs = none := by
          cases hx : (s.mt i).chs with
          | none => rfl
          | some ch => exact absurd (.inr ⟨rfl, by rw [hx]; exact Option.some_ne_none _⟩) hS
        have z2 : m.chs = none := by
          rw [z] at hc
          cases hx : m.chs with
          | none => rfl
          | some ch => rw [hx] at hc; cases hc
        rw [List.getElem?_set_self hi, ChSt.mt_lt hi]
        show m.chs.map _ = (s.mt i).chs.map _
        rw [z, z2]
      · rw [List.getElem?_set_ne hj]
    | mo =>
      show some (DO.lst ((List.range (s.mots.set i m).length).map _)) = _
      rw [List.length_set]
      rfl
    | _ => rfl
  · rcases hS with rfl | ⟨rfl, z⟩
    · rw [ct_m hi]; exact Option.some_ne_none _
    · exact hq z
/-- a motion is made: its places -/
def La.push (L : La) (n : Nat) (a q : Addr) : La := (L.put (.m n) a).put (.q n) q
theorem range_map_congr {α : Type} {n : Nat} {f g : Nat → α} (h : ∀ i, i < n → f i = g i) : (List.range n).map f = (List.range n).map g := List.map_congr_left fun i hi => h i (List.mem_range.mp hi)
theorem La.push_m {n i : Nat} {a q : Addr} (h : i ≠ n) : (L.push n a q) (.m i) = L (.m i) := by
  unfold La.push
  rw [La.put_ne (by simp), La.put_ne (by simp [h])]
theorem La.push_q {n i : Nat} {a q : Addr} (h : i ≠ n) : (L.push n a q) (.q i) = L (.q i) := by
  unfold La.push
  rw [La.put_ne (by simp [h]), La.put_ne (by simp)]
theorem La.push_mn {n : Nat} {a q : Addr} : (L.push n a q) (.m n) = a := by
  unfold La.push
  rw [La.put_ne (by simp), La.put_self]
theorem La.push_qn {n : Nat} {a q : Addr} : (L.push n a q) (.q n) = q := by
  unfold La.push
  rw [La.put_self]
theorem asD_congr {L L' : La} (h : ∀ k, L' (.ap k) = L (.ap k)) : s.asD L' = s.asD L := by unfold ChSt.asD; simp only [h]
theorem Ch.push (h : Ch κ C L s om) {t : Td} {a q : Addr} (ha : om a = none) (hq : om q = none) (hne : t.mk.chs ≠ none → a ≠ q) (A : t.mk.At κ om' a q) (E : Ext om om') :
    Nx κ C L s om (L.push s.mots.length a q) (s.push t) (ups (ups om' (L .mo) (.lst (s.moD L ++ [.obj a]))) (L .pi) (.lst (nums s.pile ++ [num s.mots.length]))) := by
  have h0 := h.ext E
  have e1 : ∀ x : Lb, s.ct κ C L x ≠ none → L x ≠ a := fun x hx z => h.there hx (z ▸ ha)
  have e2 : ∀ x : Lb, s.ct κ C L x ≠ none → L x ≠ q := fun x hx z => h.there hx (z ▸ hq)
  have a1 : Lay (L.put (.m s.mots.length) a) (fun k => if k = .m s.mots.length then some (.ins (t.mk.cls κ) (t.mk.fs q)) else s.ct κ C L k) om' := h0.new (fun k _ hk => e1 k hk) A.o Ext.refl (fun k => rfl)
  have hqn : s.ct κ C L (.q s.mots.length) = none := by
    show (s.mots[s.mots.length]?).bind _ = none
    rw [List.getElem?_eq_none (Nat.le_refl _)]
    rfl
  have a2 : Lay (L.push s.mots.length a q) (fun k => if k = .q s.mots.length then t.mk.chs.map (fun ch => .lst (ch.map Ed.d)) else if k = .m s.mots.length then some (.ins (t.mk.cls κ) (t.mk.fs q)) else s.ct κ C L k) om' := by
    cases hx : t.mk.chs with
    | some ch =>
      refine a1.new (l := .q s.mots.length) (o := .lst (ch.map Ed.d)) (fun k hk hk2 => ?_) (A.c ch hx) Ext.refl (fun k => rfl)
      by_cases z : k = .m s.mots.length
      · subst z
        rw [La.put_self]
        exact hne (by rw [hx]; exact Option.some_ne_none _)
      · rw [La.put_ne z]
        simp only [if_neg z] at hk2
        exact e2 k hk2
    | none =>
      have e3 : ∀ k, (if k = .q s.mots.length then (none : Option DO) else if k = .m s.mots.length then some (.ins (t.mk.cls κ) (t.mk.fs q)) else s.ct κ C L k) = if k = .m s.mots.length then some (.ins (t.mk.cls κ) (t.mk.fs q)) else s.ct κ C L k := fun k => by
        by_cases z : k = .q s.mots.length
        · subst z
          rw [if_pos rfl, if_neg (by simp), hqn]
        · rw [if_neg z]
      refine ⟨fun l o e => ?_, fun l l' hl hl' he => ?_⟩
      · simp only [Option.map_none, e3] at e
        have : l ≠ .q s.mots.length := fun z => by
          subst z
          rw [if_neg (by simp), hqn] at e
          cases e
        unfold La.push
        rw [La.put_ne this]
        exact a1.has l o e
      · simp only [Option.map_none, e3] at hl hl'
        have n1 : l ≠ .q s.mots.length := fun z => by
          subst z
          rw [if_neg (by simp), hqn] at hl
          exact hl rfl
        have n2 : l' ≠ .q s.mots.length := fun z => by
          subst z
          rw [if_neg (by simp), hqn] at hl'
          exact hl' rfl
        unfold La.push at he
        rw [La.put_ne n1, La.put_ne n2] at he
        exact a1.inj l l' hl hl' he
  have pmo : (L.push s.mots.length a q) .mo = L .mo := by unfold La.push; rw [La.put_ne (by simp), La.put_ne (by simp)]
  have ppi : (L.push s.mots.length a q) .pi = L .pi := by unfold La.push; rw [La.put_ne (by simp), La.put_ne (by simp)]
  obtain ⟨a3, b3⟩ := a2.put (l := .mo) (o := .lst (s.moD L ++ [.obj a])) (by rw [if_neg (by simp), if_neg (by simp)]; exact Option.some_ne_none _) (fun k => rfl)
  obtain ⟨a4, b4⟩ := a3.put (l := .pi) (o := .lst (nums s.pile ++ [num s.mots.length])) (ct1 := (s.push t).ct κ C (L.push s.mots.length a q)) (by rw [if_neg (by simp), if_neg (by simp), if_neg (by simp)]; exact Option.some_ne_none _) (fun k => by
    cases k with
    | c =>
      rw [if_neg (by simp), if_neg (by simp), if_neg (by simp), if_neg (by simp)]
      show some (DO.ins C _) = some (DO.ins C _)
      congr 2
    | mo =>
      rw [if_neg (by simp), if_pos rfl]
      show some (DO.lst ((List.range (s.mots ++ [t.mk]).length).map _)) = _
      rw [List.length_append, List.length_singleton, List.range_succ, List.map_append, List.map_cons, List.map_nil, La.push_mn, range_map_congr fun i hi => by rw [La.push_m (Nat.ne_of_lt hi)]]
      rfl
    | pi =>
      rw [if_pos rfl]
      show some (DO.lst (nums (s.pile ++ [s.mots.length]))) = _
      unfold nums
      rw [List.map_append]
      rfl
    | as =>
      rw [if_neg (by simp), if_neg (by simp), if_neg (by simp), if_neg (by simp)]
      show some (DO.dct ((s.push t).asD _)) = some (DO.dct (s.asD L))
      rfl
    | de => rfl
    | ro => rfl
    | m i =>
      rw [if_neg (by simp), if_neg (by simp), if_neg (by simp)]
      show ((s.mots ++ [t.mk])[i]?).map _ = _
      by_cases hi : i = s.mots.length
      · subst hi
        rw [if_pos rfl, List.getElem?_append_right (Nat.le_refl _), Nat.sub_self, La.push_qn]
        rfl
      · rw [if_neg (by simp [hi]), La.push_q hi]
        show _ = (s.mots[i]?).map _
        by_cases hi2 : i < s.mots.length
        · rw [List.getElem?_append_left hi2]
        · rw [List.getElem?_eq_none (by rw [List.length_append, List.length_singleton]; omega), List.getElem?_eq_none (by omega)]
    | q i =>
      rw [if_neg (by simp), if_neg (by simp)]
      show ((s.mots ++ [t.mk])[i]?).bind _ = _
      by_cases hi : i = s.mots.length
      · subst hi
        rw [if_pos rfl, List.getElem?_append_right (Nat.le_refl _), Nat.sub_self]
        rfl
      · rw [if_neg (by simp [hi]), if_neg (by simp)]
        show _ = (s.mots[i]?).bind _
        by_cases hi2 : i < s.mots.length
        · rw [List.getElem?_append_left hi2]
        · rw [List.getElem?_eq_none (by rw [List.length_append, List.length_singleton]; omega), List.getElem?_eq_none (by omega)]
    | ap k => rfl)
  rw [pmo] at a3 b3 a4 b4
  rw [ppi] at a4 b4
  refine ⟨a4, ?_, by unfold La.push; rw [La.put_ne (by simp), La.put_ne (by simp)]⟩
  refine Fr.trans (Fr.trans ⟨fun b o hb n => ⟨E b o hb, fun l hl => ?_⟩⟩ b3) b4
  have na : b ≠ a := fun z => by rw [z, ha] at hb; cases hb
  have nq : b ≠ q := fun z => by rw [z, hq] at hb; cases hb
  by_cases z : l = .q s.mots.length
  · subst z
    rw [La.push_qn]
    exact nq
  · by_cases z2 : l = .m s.mots.length
    · subst z2
      rw [La.push_mn]
      exact na
    · simp only [if_neg z, if_neg z2] at hl
      unfold La.push
      rw [La.put_ne z, La.put_ne z2]
      exact n l hl
end
end Mo

set_option Elab.async false
set_option linter.all false
set_option maxRecDepth 100000
set_option maxHeartbeats 4000000
set_option autoImplicit false
/-! Piles set aside and taken up; new chambers; the laws' own accounts. -/
namespace Mo
open PySem PySem.Spec PyProof.Rows L2
section
variable {κ : Ka} {C : Addr} {L L' L'' : La} {s s' s'' : ChSt} {om om' om'' : Om} {fs fs' fs'' : List D} {ct ct' : Ct}
def La.aside (L : La) (i : Nat) (p : Addr) : La := (L.put (.ap i) (L .pi)).put .pi p
def La.unside (L : La) (i : Nat) : La := fun x => L (swL .pi (.ap i) x)
theorem La.aside_pi {i : Nat} {p : Addr} : (L.aside i p) .pi = p := La.put_self
theorem La.aside_ap {i : Nat} {p : Addr} : (L.aside i p) (.ap i) = L .pi := by unfold La.aside; rw [La.put_ne (by simp), La.put_self]
theorem La.aside_ne {i : Nat} {p : Addr} {x : Lb} (h1 : x ≠ .pi) (h2 : x ≠ .ap i) : (L.aside i p) x = L x := by unfold La.aside; rw [La.put_ne h1, La.put_ne h2]
theorem La.unside_pi {i : Nat} : (L.unside i) .pi = L (.ap i) := rfl
theorem La.unside_ap {i : Nat} : (L.unside i) (.ap i) = L .pi := by unfold La.unside swL; rw [if_neg (by simp), if_pos rfl]
theorem La.unside_ne {i : Nat} {x : Lb} (h1 : x ≠ .pi) (h2 : x ≠ .ap i) : (L.unside i) x = L x := by unfold La.unside swL; rw [if_neg h1, if_neg h2]
theorem Lay.aside {oc oa pl : DO} {i : Nat} {p : Addr} (h : Lay L ct om) (hna : ct (.ap i) = none) (hpi : ct .pi = some pl) (ha : ct .as ≠ none) (hc : ct .c ≠ none) (hp : om p = none)
    (e : ∀ k, ct' k = if k = .c then some oc else if k = .pi then some (.lst []) else if k = .as then some oa else if k = .ap i then some pl else ct k) :
    Lay (L.aside i p) ct' (ups (ups (ups om (L .as) oa) p (.lst [])) (L .c) oc) ∧ Fr L ct om (L.aside i p) ct' (ups (ups (ups om (L .as) oa) p (.lst [])) (L .c) oc) := by
  have a1 := h.swap .pi (.ap i)
  have f1 : Fr L ct om _ _ om := Fr.swap .pi (.ap i)
  have s1 : ∀ x, x ≠ .pi → x ≠ .ap i → swL .pi (.ap i) x = x := fun x h1 h2 => by unfold swL; rw [if_neg h1, if_neg h2]
  have s2 : swL .pi (.ap i) (.ap i) = .pi := by unfold swL; rw [if_neg (by simp), if_pos rfl]
  have s3 : swL .pi (.ap i) .pi = .ap i := rfl
  obtain ⟨a2, f2⟩ := a1.put (l := .as) (o := oa) (by rw [s1 _ (by simp) (by simp)]; exact ha) (fun k => rfl)
  rw [s1 .as (by simp) (by simp)] at a2 f2
  have hp2 : (ups om (L .as) oa) p = none := by
    rw [ups_ne]
    · exact hp
    · intro z
      exact h.there ha (z ▸ hp)
  have a3 := a2.new (l := .pi) (a := p) (o := .lst []) (om1 := ups (ups om (L .as) oa) p (.lst [])) (fun k hk hk2 z => a2.there hk2 (z ▸ hp2)) ups_same (Ext.ups hp2) (fun k => rfl)
  have f3 := Fr.new (L := fun x => L (swL .pi (.ap i) x)) (l := .pi) (a := p) (o := .lst []) (om := ups om (L .as) oa) (om1 := ups (ups om (L .as) oa) p (.lst [])) (ct := fun k => if k = .as then some oa else ct (swL .pi (.ap i) k)) hp2 (Ext.ups hp2) (fun k => rfl)
  have eL : La.put (fun x => L (swL .pi (.ap i) x)) .pi p = L.aside i p := by
    funext x
    by_cases z : x = .pi
    · subst z; rw [La.put_self, La.aside_pi]
    · rw [La.put_ne z]
      by_cases z2 : x = .ap i
      · subst z2; rw [La.aside_ap]; show L (swL .pi (.ap i) (.ap i)) = _; rw [s2]
      · rw [La.aside_ne z z2]; show L (swL .pi (.ap i) x) = _; rw [s1 x z z2]
  rw [eL] at a3 f3
  obtain ⟨a4, f4⟩ := a3.put (l := .c) (o := oc) (ct1 := ct') (by rw [if_neg (by simp), if_neg (by simp), s1 _ (by simp) (by simp)]; exact hc) (fun k => by
    rw [e k]
    by_cases z1 : k = .c
    · rw [if_pos z1, if_pos z1]
    rw [if_neg z1, if_neg z1]
    by_cases z2 : k = .pi
    · rw [if_pos z2, if_pos z2]
    rw [if_neg z2, if_neg z2]
    by_cases z3 : k = .as
    · rw [if_pos z3, if_pos z3]
    rw [if_neg z3, if_neg z3]
    by_cases z4 : k = .ap i
    · subst z4
      rw [if_pos rfl, s2, hpi]
    · rw [if_neg z4, s1 k z2 z4])
  rw [La.aside_ne (by simp) (by simp)] at a4 f4
  exact ⟨a4, ((f1.trans f2).trans f3).trans f4⟩
theorem Lay.unside {oc oa : DO} {i : Nat} (h : Lay L ct om) (ha : ct .as ≠ none) (hc : ct .c ≠ none)
    (e : ∀ k, ct' k = if k = .c then some oc else if k = .pi then ct (.ap i) else if k = .as then some oa else if k = .ap i then none else ct k) :
    Lay (L.unside i) ct' (ups (ups om (L .as) oa) (L .c) oc) ∧ Fr L ct om (L.unside i) ct' (ups (ups om (L .as) oa) (L .c) oc) := by
  have a1 := h.swap .pi (.ap i)
  have f1 : Fr L ct om _ _ om := Fr.swap .pi (.ap i)
  have s1 : ∀ x, x ≠ .pi → x ≠ .ap i → swL .pi (.ap i) x = x := fun x h1 h2 => by unfold swL; rw [if_neg h1, if_neg h2]
  have s3 : swL .pi (.ap i) .pi = .ap i := rfl
  obtain ⟨a2, f2⟩ := a1.put (l := .as) (o := oa) (by rw [s1 _ (by simp) (by simp)]; exact ha) (fun k => rfl)
  rw [s1 .as (by simp) (by simp)] at a2 f2
  obtain ⟨a3, f3⟩ := a2.put (l := .c) (o := oc) (by rw [if_neg (by simp), s1 _ (by simp) (by simp)]; exact hc) (fun k => rfl)
  rw [s1 .c (by simp) (by simp)] at a3 f3
  have e2 : ∀ k, ct' k ≠ none → ct' k = if k = .c then some oc else if k = .as then some oa else ct (swL .pi (.ap i) k) := fun k hk => by
    rw [e k] at hk ⊢
    by_cases z1 : k = .c
    · rw [if_pos z1, if_pos z1]
    rw [if_neg z1] at hk ⊢
    rw [if_neg z1]
    by_cases z2 : k = .pi
    · subst z2
      rw [if_pos rfl, if_neg (by simp), s3]
    rw [if_neg z2] at hk ⊢
    by_cases z3 : k = .as
    · rw [if_pos z3, if_pos z3]
    rw [if_neg z3] at hk ⊢
    rw [if_neg z3]
    by_cases z4 : k = .ap i
    · rw [if_pos z4] at hk
      exact absurd rfl hk
    · rw [if_neg z4, s1 k z2 z4]
  exact ⟨a3.del e2, ((f1.trans f2).trans f3).trans (Fr.del e2)⟩
theorem apF_none {i : Nat} (hn : ∀ x ∈ s.aside, x.1 ≠ i) : s.apF i = none := by
  unfold ChSt.apF
  rw [List.find?_eq_none.mpr (fun x hx => by simpa using hn x hx)]
  rfl
theorem setAside_eq {i : Nat} {r : List Nat} {u : Int} (e : s.pile = i :: r) : s.setAside u = { s with aside := s.aside ++ [(i, u, i :: r)], pile := [] } := by
  unfold ChSt.setAside
  rw [e]
theorem apF_aside {i k : Nat} {u : Int} {r : List Nat} (e : s.pile = i :: r) (hn : ∀ x ∈ s.aside, x.1 ≠ i) : (s.setAside u).apF k = if k = i then some (.lst (nums s.pile)) else s.apF k := by
  rw [setAside_eq e]
  unfold ChSt.apF
  show ((s.aside ++ [(i, u, i :: r)]).find? _).map _ = _
  rw [List.find?_append]
  by_cases z : k = i
  · subst z
    rw [if_pos rfl, List.find?_eq_none.mpr (fun x hx => by simpa using hn x hx), e, List.find?_cons, decide_eq_true rfl]
    rfl
  · rw [if_neg z, List.find?_cons, decide_eq_false (show ¬ i = k from fun h => z h.symm)]
    simp
theorem asD_aside {i : Nat} {u : Int} {r : List Nat} {p : Addr} (e : s.pile = i :: r) (hn : ∀ x ∈ s.aside, x.1 ≠ i) : (s.setAside u).asD (L.aside i p) = s.asD L ++ [(.inl ((i : Int) + 1), .tup [.int u, .obj (L .pi)])] := by
  rw [setAside_eq e]
  unfold ChSt.asD
  show (s.aside ++ [(i, u, i :: r)]).map _ = _
  rw [List.map_append, List.map_cons, List.map_nil, La.aside_ap]
  congr 1
  refine List.map_congr_left fun x hx => ?_
  rw [La.aside_ne (by simp) (by simp [hn x hx])]
theorem ct_aside {i : Nat} {u : Int} {r : List Nat} {p : Addr} (e : s.pile = i :: r) (hn : ∀ x ∈ s.aside, x.1 ≠ i) (k : Lb) : (s.setAside u).ct κ C (L.aside i p) k =
    if k = .c then some (.ins C ((s.setAside u).fs (L.aside i p))) else if k = .pi then some (.lst []) else if k = .as then some (.dct (s.asD L ++ [(.inl ((i : Int) + 1), .tup [.int u, .obj (L .pi)])])) else if k = .ap i then some (.lst (nums s.pile)) else s.ct κ C L k := by
  have e1 := apF_aside (u := u) (k := i) e hn
  have e2 := asD_aside (u := u) (p := p) (L := L) e hn
  have e3 := setAside_eq (u := u) e
  cases k with
  | c => rfl
  | pi => rw [e3]; rfl
  | as => rw [if_neg (by simp), if_neg (by simp), if_pos rfl, ← e2]; rfl
  | ap k =>
    show (s.setAside u).apF k = _
    rw [if_neg (c := Lb.ap k = Lb.c) (by simp), if_neg (c := Lb.ap k = Lb.pi) (by simp), if_neg (c := Lb.ap k = Lb.as) (by simp), apF_aside e hn]
    by_cases z : k = i
    · rw [if_pos z, if_pos (by rw [z])]
    · rw [if_neg z, if_neg (by simp [z])]
      rfl
  | mo => rw [e3]; rfl
  | de => rw [e3]; rfl
  | ro => rw [e3]; rfl
  | m j => rw [e3]; rfl
  | q j => rw [e3]; rfl
theorem Ch.setAside (h : Ch κ C L s om) {i : Nat} {r : List Nat} {u : Int} {p : Addr} (e : s.pile = i :: r) (hn : ∀ x ∈ s.aside, x.1 ≠ i) (hp : om p = none) :
    Nx κ C L s om (L.aside i p) (s.setAside u) (ups (ups (ups om (L .as) (.dct (s.asD L ++ [(.inl ((i : Int) + 1), .tup [.int u, .obj (L .pi)])]))) p (.lst [])) (L .c) (.ins C ((s.setAside u).fs (L.aside i p)))) := by
  obtain ⟨a, b⟩ := Lay.aside (ct' := (s.setAside u).ct κ C (L.aside i p)) (oc := .ins C ((s.setAside u).fs (L.aside i p))) (oa := .dct (s.asD L ++ [(.inl ((i : Int) + 1), .tup [.int u, .obj (L .pi)])])) (pl := .lst (nums s.pile)) h (apF_none hn) rfl (Option.some_ne_none _) (Option.some_ne_none _) hp (ct_aside e hn)
  exact ⟨a, b, La.aside_ne (by simp) (by simp)⟩
/-- the key's own list is dropped -/
theorem asD_drop {i : Nat} {l : List (Nat × Int × List Nat)} {f : Nat → Addr} : dDrop (l.map fun x => ((.inl ((x.1 : Int) + 1) : Key), D.tup [.int x.2.1, .obj (f x.1)])) (.inl ((i : Int) + 1)) = (l.filter fun y => decide (y.1 ≠ i)).map fun x => ((.inl ((x.1 : Int) + 1) : Key), D.tup [.int x.2.1, .obj (f x.1)]) := by
  induction l with
  | nil => rfl
  | cons a l ih =>
    unfold dDrop at ih ⊢
    by_cases z : a.1 = i
    · rw [List.map_cons, List.filter_cons_of_neg (by simp [z]), List.filter_cons_of_neg (by simp [z])]
      exact ih
    · rw [List.map_cons, List.filter_cons_of_pos (by simp; omega), List.filter_cons_of_pos (by simp [z]), List.map_cons, ih]
theorem asD_unside {x : Nat × Int × List Nat} : (s.unside x).asD (L.unside x.1) = dDrop (s.asD L) (.inl ((x.1 : Int) + 1)) := by
  unfold ChSt.asD
  rw [asD_drop (f := fun k => L (.ap k))]
  show ((s.aside.filter _).map _) = _
  refine List.map_congr_left fun y hy => ?_
  have := (List.mem_filter.mp hy).2
  rw [La.unside_ne (by simp) (by simpa using this)]
theorem apF_unside {x : Nat × Int × List Nat} {k : Nat} : (s.unside x).apF k = if k = x.1 then none else s.apF k := by
  unfold ChSt.apF
  show (((s.aside.filter fun y => decide (y.1 ≠ x.1)).find? _).map _) = _
  by_cases z : k = x.1
  · rw [if_pos z, List.find?_eq_none.mpr (fun y hy => by have := (List.mem_filter.mp hy).2; rw [z]; simpa using this)]
    rfl
  · rw [if_neg z]
    congr 1
    generalize s.aside = l
    induction l with
    | nil => rfl
    | cons a l ih =>
      by_cases z2 : a.1 = x.1
      · rw [List.filter_cons_of_neg (by simp [z2]), List.find?_cons, decide_eq_false (show ¬ a.1 = k from fun h => z (h.symm.trans z2))]
        exact ih
      · rw [List.filter_cons_of_pos (by simp [z2]), List.find?_cons, List.find?_cons, ih]
theorem ct_unside (nd : (s.aside.map (·.1)).Nodup) {x : Nat × Int × List Nat} (hx : x ∈ s.aside) (k : Lb) : (s.unside x).ct κ C (L.unside x.1) k =
    if k = .c then some (.ins C ((s.unside x).fs (L.unside x.1))) else if k = .pi then s.ct κ C L (.ap x.1) else if k = .as then some (.dct (dDrop (s.asD L) (.inl ((x.1 : Int) + 1)))) else if k = .ap x.1 then none else s.ct κ C L k := by
  have e1 := asD_unside (s := s) (x := x) (L := L)
  cases k with
  | c => rfl
  | pi =>
    rw [if_neg (by simp), if_pos rfl]
    show some (DO.lst (nums x.2.2)) = s.apF x.1
    rw [apF_at nd hx]
  | as => rw [if_neg (by simp), if_neg (by simp), if_pos rfl, ← e1]; rfl
  | ap k =>
    show (s.unside x).apF k = _
    rw [if_neg (c := Lb.ap k = Lb.c) (by simp), if_neg (c := Lb.ap k = Lb.pi) (by simp), if_neg (c := Lb.ap k = Lb.as) (by simp), apF_unside]
    by_cases z : k = x.1
    · rw [if_pos z, if_pos (by rw [z])]
    · rw [if_neg z, if_neg (by simp [z])]
      rfl
  | mo =>
    show some (DO.lst _) = some (DO.lst _)
    congr 2
  | de => rfl
  | ro => rfl
  | m j =>
    show (s.mots[j]?).map _ = (s.mots[j]?).map _
    rw [La.unside_ne (by simp) (by simp)]
  | q j => rfl
theorem Ch.unside (h : Ch κ C L s om) (nd : (s.aside.map (·.1)).Nodup) {x : Nat × Int × List Nat} (hx : x ∈ s.aside) :
    Nx κ C L s om (L.unside x.1) (s.unside x) (ups (ups om (L .as) (.dct (dDrop (s.asD L) (.inl ((x.1 : Int) + 1))))) (L .c) (.ins C ((s.unside x).fs (L.unside x.1)))) := by
  obtain ⟨a, b⟩ := Lay.unside (ct' := (s.unside x).ct κ C (L.unside x.1)) (oc := .ins C ((s.unside x).fs (L.unside x.1))) (oa := .dct (dDrop (s.asD L) (.inl ((x.1 : Int) + 1)))) (i := x.1) h (Option.some_ne_none _) (Option.some_ne_none _) (ct_unside nd hx)
  exact ⟨a, b, La.unside_ne (by simp) (by simp)⟩
/-! new ones -/
def La.of (c mo pi as de ro : Addr) : La
  | .c => c | .mo => mo | .pi => pi | .as => as | .de => de | .ro => ro | _ => c
theorem Lay.six {c mo pi as de ro : Addr} (hs : ∀ k o, ct k = some o → om ((La.of c mo pi as de ro) k) = some o) (hn : ∀ k, ct k ≠ none → k = .c ∨ k = .mo ∨ k = .pi ∨ k = .as ∨ k = .de ∨ k = .ro) (nd : [c, mo, pi, as, de, ro].Nodup) : Lay (La.of c mo pi as de ro) ct om := by
  refine ⟨hs, fun k k' h1 h2 h3 => ?_⟩
  simp only [List.nodup_cons, List.mem_cons, List.not_mem_nil, or_false, not_or] at nd
  rcases hn k h1 with rfl | rfl | rfl | rfl | rfl | rfl <;> rcases hn k' h2 with rfl | rfl | rfl | rfl | rfl | rfl <;> first | rfl | (exfalso; simp only [La.of] at h3; subst h3; simp at nd)
end
end Mo

set_option Elab.async false
set_option linter.all false
set_option maxRecDepth 100000
set_option maxHeartbeats 4000000
set_option autoImplicit false
/-! What the walk of a chamber wants. -/
namespace Mo
open PySem PySem.Spec PyProof.Rows L2
theorem mat_is {s : ChSt} {i : Nat} (h : s.mat = some i) : (s.mt i).isMatter = true := by
  unfold ChSt.mat at h
  exact List.find?_some (p := fun i => (s.mt i).isMatter) h
theorem mat_mem {s : ChSt} {i : Nat} (h : s.mat = some i) : i ∈ s.pile := by
  unfold ChSt.mat at h
  exact List.mem_of_find?_eq_some h
def Lb.fix : Lb → Bool
  | .c => true | .mo => true | .pi => true | .as => true | .de => true | .ro => true
  | _ => false
theorem Ch.neF {κ : Ka} {C : Addr} {L : La} {s : ChSt} {om : Om} (h : Ch κ C L s om) {l k : Lb} (hl : l.fix = true) (hk : k.fix = true) (n : l ≠ k) : L l ≠ L k := by
  refine Lay.ne h ?_ ?_ n
  · cases l <;> first | exact Option.some_ne_none _ | cases hl
  · cases k <;> first | exact Option.some_ne_none _ | cases hk
def Lb.fixM : Lb → Bool
  | .c => true | .mo => true | .pi => true | .as => true | .de => true
  | _ => false
theorem Md.neF {fs : List D} {L : La} {s : ChSt} {om : Om} (h : Md fs L s om) {l k : Lb} (hl : l.fixM = true) (hk : k.fixM = true) (n : l ≠ k) : L l ≠ L k := by
  refine Lay.ne h ?_ ?_ n
  · cases l <;> first | exact Option.some_ne_none _ | cases hl
  · cases k <;> first | exact Option.some_ne_none _ | cases hk
structure Fit (s : ChSt) : Prop where
  pl : ∀ i ∈ s.pile, i < s.mots.length
  pn : s.pile.length ≤ 1000
  mn : s.mots.length ≤ 1000
  rn : s.rows.length ≤ 1000
  dn : s.decided.length ≤ 1000
  an : s.aside.length ≤ 1000
  mb : ∀ i, i < s.mots.length → bdM 1000 (s.mt i)
theorem up_len : ∀ (l : List Mt) (lo : Int), (∀ m ∈ l, lo ≤ m.rank) → (l.Pairwise fun a b => a.rank < b.rank) → 0 ≤ lo → lo ≤ 8 → (l.length : Int) ≤ 8 - lo
  | [], lo, _, _, _, _ => by show (0 : Int) ≤ _; omega
  | a :: l, lo, h, up, h0, h8 => by
    have hu := List.pairwise_cons.mp up
    have h1 := h a (by simp)
    have h7 : a.rank ≤ 7 := by cases a <;> simp [Mt.rank, Mt.td, Td.rank]
    have := up_len l (a.rank + 1) (fun m hm => by have := hu.1 m hm; omega) hu.2 (by omega) (by omega)
    rw [List.length_cons]
    omega
theorem WF.pile8 {s : ChSt} (h : WF s) : s.pile.length ≤ 8 := by
  have := up_len s.on 0 (fun m _ => m.rank_lo) h.gp.up (by omega) (by omega)
  unfold ChSt.on at this
  rw [List.length_map] at this
  omega
theorem WF.fit {s : ChSt} {N : Nat} (h : WF s) (b : Bnd N s) (hN : N ≤ 1000) : Fit s := ⟨fun i hi => h.lt hi, by have := h.pile8; omega, by have := b.ml; omega, by have := b.rl; omega, by have := b.dl; omega, by have := b.al; omega, fun i hi => bdM.mono hN (b.mt hi)⟩
theorem Fit.ended {s : ChSt} {ys : List Nat} {i : Nat} {w : Str} (h : Fit s) (e : s.pile = ys ++ [i]) (hd : s.decided.length < 1000) : Fit (s.ended w) := by
  rw [ended_eq e]
  refine ⟨fun j hj => h.pl j (by rw [e]; exact List.mem_append_left _ hj), ?_, h.mn, h.rn, ?_, h.an, h.mb⟩
  · have := h.pn
    rw [e, List.length_append] at this
    show ys.length ≤ 1000
    omega
  · show (s.decided ++ [_]).length ≤ 1000
    rw [List.length_append, List.length_singleton]
    omega
/-- the class and the value of a refusal -/
def Rf.nm : Rf → Str
  | .bar _ => "Barred" | .noMatter => "NoMatter" | .noChange => "NoChange" | .noFit => "NoFit" | .notLater _ => "NotLater" | .nothing => "Nothing" | .tooMany => "TooMany" | .noAside => "NoAside" | .notYet _ => "NotYet"
def Rf.fs : Rf → List (Str × D)
  | .bar b => [("bar", .int b)] | .notLater n => [("sitting", .int n)] | .notYet n => [("sitting", .int n)]
  | _ => []
abbrev Rf.cls (K : PySem.W.Frag) (r : Rf) : Addr := He.ga K r.nm
def An.d : An → D
  | .num i => .int i
  | .word s => .str s
def An.p : An → PyData
  | .num i => .int i
  | .word s => .str s
theorem An.pd {om : Om} : ∀ a : An, Pd om a.d a.p
  | .num i => Pd.int i
  | .word s => Pd.str s
section
variable {X : Cx} {om : Om} {p : Addr} {l : List Nat} {L : La} {s : ChSt}
theorem pdl_nums (l : List Nat) : PdL om (nums l) (l.map fun i : Nat => PyData.int ((i : Int) + 1)) := PdL.map (fun i => Pd.int _) l
theorem pk_nums (l : List Nat) : pok (.list (l.map fun i : Nat => PyData.int ((i : Int) + 1))) := pok_of (pokn_list (all_map (fun _ => pokn_int) l))
theorem eqv_nil (l : List Nat) : PyData.eqv (.list (l.map fun i : Nat => PyData.int ((i : Int) + 1))) (.list []) = decide (l = []) := by
  cases l <;> simp [PyData.eqv, PyData.eqvAll]
theorem c_eqNil (hu : X.A.units + 64 < cLine) (h : om p = some (.lst (nums l))) : Op X om (compareOp .Eq) (.obj p) (.lst []) (.bl (decide (l = []))) := by
  rw [← eqv_nil l]
  exact c_eqD hu (Pd.o h (pdl_nums l)) (Pd.l .nil) (pk_nums l) (pok_of (pokn_list all_nil))
theorem c_neNil (hu : X.A.units + 64 < cLine) (h : om p = some (.lst (nums l))) : Op X om (compareOp .NotEq) (.obj p) (.lst []) (.bl (!decide (l = []))) := by
  rw [← eqv_nil l]
  exact c_neD hu (Pd.o h (pdl_nums l)) (Pd.l .nil) (pk_nums l) (pok_of (pokn_list all_nil))
theorem at_mo {i : Nat} (h : i < s.mots.length) : atI (s.moD L) ((i : Int) + 1 - 1) = some (.obj (L (.m i))) := by
  rw [show (i : Int) + 1 - 1 = (i : Int) by omega]
  unfold ChSt.moD
  exact at_map (f := fun i => D.obj (L (.m i))) (List.getElem?_range h)
theorem at_num {ys : List Nat} {i : Nat} : atI (nums (ys ++ [i])) (-1) = some (num i) := by
  unfold nums
  rw [List.map_append]
  exact at_last
theorem at_num0 {ys : List Nat} {i : Nat} : atI (nums (i :: ys)) 0 = some (num i) := at_0
theorem moD_len : (s.moD L).length = s.mots.length := by unfold ChSt.moD; rw [List.length_map, List.length_range]
theorem nums_len : (nums l).length = l.length := by unfold nums; rw [List.length_map]
theorem deD_len : s.deD.length = s.decided.length := by unfold ChSt.deD; rw [List.length_map]
theorem asD_len : (s.asD L).length = s.aside.length := by unfold ChSt.asD; rw [List.length_map]
/-- the aside's keys -/
theorem asD_get {i : Nat} {l : List (Nat × Int × List Nat)} {f : Nat → Addr} : dGet (l.map fun x => ((.inl ((x.1 : Int) + 1) : Key), D.tup [.int x.2.1, .obj (f x.1)])) (.inl ((i : Int) + 1)) = (l.find? fun x => decide (x.1 = i)).map fun x => D.tup [.int x.2.1, .obj (f x.1)] := by
  induction l with
  | nil => rfl
  | cons a l ih =>
    unfold dGet at ih ⊢
    rw [List.map_cons, List.find?_cons, List.find?_cons]
    by_cases z : a.1 = i
    · rw [decide_eq_true z, decide_eq_true (by rw [z])]
      rfl
    · rw [decide_eq_false z, decide_eq_false (by simp; omega)]
      exact ih
theorem findA_asD (k : Int) : dGet (s.asD L) (.inl k) = (s.findA k).map fun x => D.tup [.int x.2.1, .obj (L (.ap x.1))] := by
  unfold ChSt.findA ChSt.asD dGet
  generalize s.aside = l
  induction l with
  | nil => rfl
  | cons a l ih =>
    rw [List.map_cons, List.find?_cons, List.find?_cons]
    by_cases z : (a.1 : Int) + 1 = k
    · rw [decide_eq_true z, decide_eq_true (by rw [z])]
      rfl
    · rw [decide_eq_false z, decide_eq_false (by simpa using z)]
      exact ih
theorem hasA_asD (k : Int) : dHas (s.asD L) (.inl k) = (s.findA k).isSome := by
  unfold ChSt.findA ChSt.asD dHas
  generalize s.aside = l
  induction l with
  | nil => rfl
  | cons a l ih =>
    rw [List.map_cons, List.any_cons, List.find?_cons]
    by_cases z : (a.1 : Int) + 1 = k
    · rw [decide_eq_true z, decide_eq_true (by rw [z])]
      rfl
    · rw [decide_eq_false z, decide_eq_false (by simpa using z), Bool.false_or]
      exact ih
theorem findA_key {k : Int} {x : Nat × Int × List Nat} (h : s.findA k = some x) : x ∈ s.aside ∧ k = (x.1 : Int) + 1 := ⟨List.mem_of_find?_eq_some h, by have := List.find?_some h; exact (of_decide_eq_true this).symm⟩
theorem asD_put {i : Nat} {d : D} (hn : ∀ x ∈ s.aside, x.1 ≠ i) : dPut (s.asD L) (.inl ((i : Int) + 1)) d = s.asD L ++ [(.inl ((i : Int) + 1), d)] := by
  unfold dPut
  rw [hasA_asD, show s.findA ((i : Int) + 1) = none from List.find?_eq_none.mpr fun x hx => by have := hn x hx; simp; omega]
  rfl
end
end Mo

set_option Elab.async false
set_option linter.all false
set_option maxRecDepth 100000
set_option maxHeartbeats 4000000
set_option autoImplicit false
/-! Method calls as statements. -/
namespace Mo
open PySem PySem.Spec PyProof.Rows L2
section
variable {X : Cx} {R : RX} {F : De} {ro : Ro} {om : Om} {e o : Expr} {es : List Expr} {pos apos pos2 : Pos} {rest : List Stmt} {x d z : D} {m xn f : Str} {a C : Addr} {fs : List (Str × D)} {k n : Nat} {G : Fs} {ds : List D}
/-- o.f, o of any effect -/
theorem e_fld {Q : DK} (h : we X R ro om e fun x om1 => ∃ p C fs z, x = .obj p ∧ om1 p = some (.ins C fs) ∧ Att X.K C f ∧ fs.lookup f = some z ∧ Q z om1) (hb : attributeBase e f X.env (eval e X.env) = eval e X.env := by rfl) : we X R ro om (.Attribute e f pos) Q := .mk fun om0 H0 t σ H o =>
  pE_of (pe_fld pE_pe hb) (pE_mono (h om0 H0 t σ H o) fun v H1 ⟨x, om1, ⟨p, C, fs, z, ex, hp, A, hl, q⟩, o1, r⟩ => by
    subst ex
    cases r
    obtain ⟨dx, fs', h1, h2, h3⟩ := o1.store _ _ hp
    obtain ⟨w, h4, h5⟩ := lk_rep h2 h3 hl
    exact ⟨p, C, dx, fs', w, rfl, h1, A.cl, A.no, h4, _, _, q, o1, h5⟩)
/-- o.m(..) -/
theorem e_m {Q : DK} {pl : Sem Bool} (ho : wv X ro om o (.obj a)) (hp : om a = some (.ins C fs)) (hl : fs.lookup m = none) (M : MethOk X.prog X.w X.K X.mg X.base C m k n G) (hr : Room k X.A) (ha : wav X ro om (e :: es) ds) (hn : ds.length + 1 = n)
    (g : G (.obj a :: ds) om Q (fun c fs om' => R c fs ro om'))
    (hst : starEach (e :: es) X.env = (false, eval e X.env) :: starEach es X.env := by rfl) (hpl : (backTo pos (starEach es X.env)).any (·.1) = false := by rfl)
    (ht : eval (.Call (.Attribute o m apos) (e :: es) [] pos) X.env = (do
      let ov ← eval o X.env
      standAt apos.atName
      let (f, first) ← holding [ov] (getMethod ov m pl)
      callWith pos f first (backTo pos (starEach (e :: es) X.env)) (backToKw pos (keywordEach [] X.env))) := by rfl) : we X R ro om (.Call (.Attribute o m apos) (e :: es) [] pos) Q :=
  e_meth (pl := pl) (ho R _ ⟨a, C, fs, k, n, G, rfl, hp, hl, M, hr, ha R _ ⟨hn, g⟩⟩) hst hpl ht
theorem e_m0 {Q : DK} {pl : Sem Bool} (ho : wv X ro om o (.obj a)) (hp : om a = some (.ins C fs)) (hl : fs.lookup m = none) (M : MethOk X.prog X.w X.K X.mg X.base C m k 1 G) (hr : Room k X.A)
    (g : G [.obj a] om Q (fun c fs om' => R c fs ro om'))
    (ht : eval (.Call (.Attribute o m apos) [] [] pos) X.env = (do
      let ov ← eval o X.env
      standAt apos.atName
      let (f, first) ← holding [ov] (getMethod ov m pl)
      callWith pos f first (backTo pos (starEach [] X.env)) (backToKw pos (keywordEach [] X.env))) := by rfl) : we X R ro om (.Call (.Attribute o m apos) [] [] pos) Q :=
  e_meth0 (pl := pl) (ho R _ ⟨a, C, fs, k, G, rfl, hp, hl, M, hr, g⟩) ht
theorem Lo.un3 {i j k' : Nat} {xn yn zn : Str} {p q r tp : Pos} {k : Nat} (l : Lo X i xn) (m : Lo X j yn) (m' : Lo X k' zn) (nd : X.N.Nodup) (hc : X.calm = true) (h : we X F.ex ro om e fun d om1 => ∃ d1 d2 d3, d = .tup [d1, d2, d3] ∧ ws X F (((ro.set i (some d1)).set j (some d2)).set k' (some d3)) om1 rest)
    (hn : (assignEach [.Name xn p, .Name yn q, .Name zn r] X.env).length = 3 := by rfl) (hst : (assignEach [.Name xn p, .Name yn q, .Name zn r] X.env).findIdx? (·.1) = none := by rfl) (hs : swapsWithSole [.Tuple [.Name xn p, .Name yn q, .Name zn r] k tp] e pos.line X.env = pure false := by rfl)
    (hw : swappedStores [.Tuple [.Name xn p, .Name yn q, .Name zn r] k tp] e X.env = pure none := by rfl) (h1 : (assignEach [.Tuple [.Name xn p, .Name yn q, .Name zn r] k tp] X.env).map (·.2) = [assign (.Tuple [.Name xn p, .Name yn q, .Name zn r] k tp) X.env] := by rfl) :
    ws X F ro om (.Assign [.Tuple [.Name xn p, .Name yn q, .Name zn r] k tp] e pos :: rest) := ws_cons (s_unT (G := G3 i j k') (we_mono h fun d om' ⟨d1, d2, d3, a, b⟩ => ⟨[d1, d2, d3], a, rfl, b⟩) hc (pgs_cons (l.pg nd) (pgs_cons (m.pg nd) (pgs_cons (m'.pg nd) pgs_nil))) (fun _ _ _ _ _ _ _ _ hl o r q => g3_ok i j k' hl o r q) hn hst hs hw h1)
end
end Mo

set_option Elab.async false
set_option linter.all false
set_option maxRecDepth 100000
set_option maxHeartbeats 4000000
set_option autoImplicit false
/-! The state that is told, the aside in order. -/
namespace Mo
open PySem PySem.Spec PyProof.Rows L2
abbrev As := Nat × Int × List Nat
def insA (x : As) : List As → List As
  | [] => [x]
  | y :: l => if x.1 ≤ y.1 then x :: y :: l else y :: insA x l
def sortL : List As → List As
  | [] => []
  | x :: l => insA x (sortL l)
theorem insA_perm (x : As) : ∀ l, (insA x l).Perm (x :: l)
  | [] => .refl _
  | y :: l => by
    unfold insA
    split
    · exact .refl _
    · exact ((insA_perm x l).cons y).trans (.swap x y l)
theorem sortL_perm : ∀ l, (sortL l).Perm l
  | [] => .refl _
  | x :: l => (insA_perm x _).trans ((sortL_perm l).cons x)
theorem insA_mem {x y : As} {l : List As} (h : y ∈ insA x l) : y = x ∨ y ∈ l := List.mem_cons.mp ((insA_perm x l).mem_iff.mp h)
theorem insA_sorted (x : As) : ∀ {l : List As}, (l.Pairwise fun a b => a.1 ≤ b.1) → (insA x l).Pairwise fun a b => a.1 ≤ b.1
  | [], _ => by simp [insA]
  | y :: l, h => by
    have hp := List.pairwise_cons.mp h
    unfold insA
    split
    · next hxy =>
      refine List.pairwise_cons.mpr ⟨fun z hz => ?_, h⟩
      rcases List.mem_cons.mp hz with e | e
      · rw [e]; exact hxy
      · exact Nat.le_trans hxy (hp.1 z e)
    · next hxy =>
      refine List.pairwise_cons.mpr ⟨fun z hz => ?_, insA_sorted x hp.2⟩
      rcases insA_mem hz with e | e
      · rw [e]; omega
      · exact hp.1 z e
theorem sortL_sorted : ∀ l : List As, (sortL l).Pairwise fun a b => a.1 ≤ b.1
  | [] => .nil
  | x :: l => insA_sorted x (sortL_sorted l)
theorem perm_sorted : ∀ {l m : List Int}, l.Perm m → l.Pairwise (· ≤ ·) → m.Pairwise (· ≤ ·) → l = m
  | [], m, p, _, _ => (List.nil_perm.mp p).symm
  | a :: l, [], p, _, _ => absurd p.symm (by simp)
  | a :: l, b :: m, p, hl, hm => by
    have h1 := List.pairwise_cons.mp hl
    have h2 := List.pairwise_cons.mp hm
    have e : a = b := by
      have ha : a ∈ b :: m := p.mem_iff.mp (by simp)
      have hb : b ∈ a :: l := p.mem_iff.mpr (by simp)
      rcases List.mem_cons.mp ha with z | z
      · exact z
      · rcases List.mem_cons.mp hb with w | w
        · exact w.symm
        · have := h2.1 a z
          have := h1.1 b w
          omega
    subst e
    rw [perm_sorted (List.Perm.cons_inv p) h1.2 h2.2]
namespace ChSt
def sortA (s : ChSt) : List As := sortL s.aside
theorem sortA_keys {s : ChSt} (ys : List Int) (p : ys.Perm (s.aside.map fun x => (x.1 : Int) + 1)) (h : ys.Pairwise (· ≤ ·)) : ys = s.sortA.map fun x => (x.1 : Int) + 1 := by
  refine perm_sorted (p.trans ((sortL_perm s.aside).map _).symm) h ?_
  rw [List.pairwise_map]
  exact (sortL_sorted s.aside).imp fun h => by omega
theorem sortA_mem {s : ChSt} {x : As} (h : x ∈ s.sortA) : x ∈ s.aside := (sortL_perm s.aside).mem_iff.mp h
theorem sortA_len {s : ChSt} : s.sortA.length = s.aside.length := (sortL_perm s.aside).length_eq
def asT (s : ChSt) : List D := s.sortA.map fun x => .tup [num x.1, .int x.2.1, .lst (nums x.2.2)]
/-- the told state, as a tree -/
def stateD (s : ChSt) : D := .tup [.int s.sitting, .bl s.closed, .lst (nums s.pile), .lst s.asT, .lst s.deD]
def numsP (l : List Nat) : List PyData := l.map fun i : Nat => .int ((i : Int) + 1)
def stateP (s : ChSt) : PyData := .tuple [.int s.sitting, .bool s.closed, .list (numsP s.pile), .list (s.sortA.map fun x => .tuple [.int ((x.1 : Int) + 1), .int x.2.1, .list (numsP x.2.2)]), .list (s.decided.map fun x => .tuple [.int ((x.1 : Int) + 1), .str x.2])]
theorem state_pd {om : Om} {s : ChSt} : Pd om s.stateD s.stateP :=
  Pd.t (.cons (Pd.int _) (.cons (Pd.bl _) (.cons (Pd.l (pdl_nums _)) (.cons (Pd.l (PdL.map (fun x => Pd.t (.cons (Pd.int _) (.cons (Pd.int _) (.cons (Pd.l (pdl_nums _)) .nil)))) _)) (.cons (Pd.l (PdL.map (fun x => Pd.t (.cons (Pd.int _) (.cons (Pd.str _) .nil))) _)) .nil)))))
theorem state_pk {s : ChSt} : pokn 5 s.stateP :=
  pokn_tuple (all_cons pokn_int (all_cons pokn_bool (all_cons (pokn_list (all_map (fun _ => pokn_int) _)) (all_cons (pokn_list (all_map (fun x => pokn_tuple (all_cons pokn_int (all_cons pokn_int (all_cons (pokn_list (all_map (fun _ => pokn_int) _)) all_nil)))) _)) (all_cons (pokn_list (all_map (fun x => pokn_tuple (all_cons pokn_int (all_cons pokn_str all_nil))) _)) all_nil)))))
end ChSt
/-- no list of the told thing stands at the layout -/
def TdOut (L : La) (ct : Ct) (x : D) : Prop := ∀ k b, x = .tup [k, .obj b] → Out L ct b
theorem TdOut.d {L : La} {ct : Ct} : ∀ t : Td, TdOut L ct t.d
  | .matter t => fun k b e => by cases e
  | .change e => fun k b h => by cases e <;> cases h
  | .mend e => fun k b h => by cases e <;> cases h
  | .putOff n => fun k b e => by cases e
  | .close => fun k b e => by cases e
  | .lay => fun k b e => by cases e
  | .rest => fun k b e => by cases e
  | .point s => fun k b e => by cases e
theorem TdAt.fr {L L' : La} {ct ct' : Ct} {om om' : Om} {x : D} (f : Fr L ct om L' ct' om') : ∀ {t : Td}, TdAt om x t → TdOut L ct x → TdAt om' x t
  | .matter t, ⟨y, e, l⟩, n => ⟨y, e, by
    rcases l with l | ⟨b, eb, hb⟩
    · exact .inl l
    · exact .inr ⟨b, eb, (f.go b _ hb (n _ b (by rw [e, eb]))).1⟩⟩
  | .change _, h, _ => h | .mend _, h, _ => h | .putOff _, h, _ => h | .close, h, _ => h | .lay, h, _ => h | .rest, h, _ => h | .point _, h, _ => h
/-- of two drawn or kept motions, the size of a row -/
theorem okT.sm {s : ChSt} (h : WF s) {t : Td} (ht : okT t) (hl : s.lack t = none) : smT t := by
  unfold ChSt.lack at hl
  split at hl
  · cases hl
  cases t with
  | matter t => exact Nat.le_trans ht (by decide)
  | change e =>
    simp only [ChSt.check] at hl
    split at hl
    · cases hl
    · split at hl
      · next hf => exact ⟨⟨(Ed.fits_at hf).1, ht.2⟩, Nat.le_trans ht.1 (by decide)⟩
      · cases hl
  | mend e =>
    simp only [ChSt.check] at hl
    split at hl
    · cases hl
    · split at hl
      · cases hl
      · split at hl
        · next hf => exact ⟨⟨(Ed.fits_at hf).1, ht.2⟩, Nat.le_trans ht.1 (by decide)⟩
        · cases hl
  | putOff n =>
    simp only [ChSt.check] at hl
    split at hl
    · cases hl
    · split at hl
      · cases hl
      · next hn =>
        have := h.sit
        exact ⟨by omega, ht⟩
  | point c => exact ht
  | _ => trivial
end Mo

set_option Elab.async false
set_option linter.all false
set_option maxRecDepth 100000
set_option maxHeartbeats 4000000
set_option autoImplicit false
/-! Dicts shown, stored with new things, compared with an empty one. -/
namespace Mo
open PySem PySem.Spec PyProof.Rows L2
section
variable {X : Cx} {R : RX} {F : De} {ro : Ro} {om : Om} {e o i : Expr} {es : List Expr} {pos : Pos} {rest : List Stmt} {x d z : D} {p : Addr} {kvs : List (Key × D)} {k : Key}
/-- d[k] = e, of any effect -/
theorem st_dputE {pos' : Pos} (hu : X.A.units + 1 < cLine) (h : we X F.ex ro om e fun d om1 => ∃ p k kvs, wv X ro om1 o (.obj p) ∧ wv X ro om1 i (kD k) ∧ om1 p = some (.dct kvs) ∧ kvs.length < sizeLine ∧ ws X F ro (ups om1 p (.dct (dPut kvs k d))) rest)
    (hs : swapsWith e (some (.Subscript o i pos')) pos.line X.env = pure false := by rfl) : ws X F ro om (.Assign [.Subscript o i pos'] e pos :: rest) := ws_cons <| .mk fun om0 H0 t σ H ok => by
  refine pS_of (ps_dput hu pE_pe pE_pe pE_pe hs) ?_
  refine pE_mono (h om0 H0 t σ H ok) fun v H1 ⟨d, om1, ⟨p, k, kvs, ho, hi, hp, hl, nx⟩, o1, r1⟩ => ?_
  refine v_run ho (t.at o1.stab) (om0 := om1) (H0 := H1) ⟨o1.store, Stable.refl, o1.slot, o1.len⟩ fun u H2 o2 r2 => ?_
  refine v_run hi (t.at (o1.stab.trans o2.stab)) (om0 := om1) (H0 := H2) ⟨o2.store, Stable.refl, o2.slot, o2.len⟩ fun w H3 o3 r3 => ?_
  cases r2
  cases kD_rep r3
  have s3 : Stable om0 H0 om1 H3 := (o1.stab.trans o2.stab).trans o3.stab
  have ok3 : Ok X.K om0 H0 om1 H3 σ ro := ⟨o3.store, s3, o3.slot, o3.len⟩
  obtain ⟨kvs', h1, h2, h3⟩ := o3.store _ _ hp
  obtain ⟨q1, q2⟩ := dPut_rep (k := k) ((r1.mono o2.stab).mono o3.stab) h2 h3
  refine ⟨p, _, rfl, DPut.k h1 (by rw [dLen h2]; exact hl), ?_⟩
  exact ⟨_, _, nx, ok3.to (o3.store.put hp ⟨_, upd_same, q1, q2.mono (Stable.put hp)⟩) (Stable.put hp)⟩
theorem op_neD0 (hu : X.A.units < cLine) : OpR X (compareOp .NotEq) (fun x y H Q => ∃ a b ks, x = .ref a ∧ y = .ref b ∧ H a = some (.dK ks) ∧ H b = some (.dK []) ∧ Q (.bl (!ks.isEmpty)) H) := by
  intro pins s σ H x y v u Q I rx ry h
  obtain ⟨a, b, ks, rfl, rfl, ea, eb, q⟩ := h
  obtain rfl : v = Value.ref a := rx
  obtain rfl : u = Value.ref b := ry
  obtain ⟨_, ya, va, ra, da⟩ := (show ObjOk X.prog X.w H s.heap a (.dK ks) from I.hok a _ ea)
  obtain ⟨_, yb, vb, rb, db⟩ := (show ObjOk X.prog X.w H s.heap b (.dK []) from I.hok b _ eb)
  cases rb
  have hl : ks.length = va.length := ra.length
  refine PySem.W.keq_ne (knd := mixKind X.prog X.w) (r := true) ya yb da db hu (fun hz => ?_) (fin_bl I q ?_)
  · have : va = [] := List.length_eq_zero_iff.mp hz
    rw [this]
    exact .nil
  · cases ks with
    | nil => cases va with
      | nil => rfl
      | cons _ _ => simp at hl
    | cons _ _ => cases va with
      | nil => simp at hl
      | cons _ _ => rfl
/-- d != {} -/
theorem tv_neD {op2 : Pos} (hu : X.A.units < cLine) (h : wv X ro om o (.obj p)) (hp : om p = some (.dct kvs)) (hm : behindInMarks .NotEq (.Dict [] [] op2) = false := by first | exact nomark _ | rfl) : wtv X ro om (.Compare o [.NotEq] [.Dict [] [] op2] pos) (!kvs.isEmpty) := .mk fun R Q q => .mk fun om0 H0 t σ H ok => by
  refine pT_mono (t_cmp (Q := fun k om' => k = (!kvs.isEmpty) ∧ ∃ p2, om p2 = none ∧ om' = ups om p2 (.dct [])) (h R _ (e_dnew fun p2 h2 => fun om0 H0 σ ro H v u ok rx ry => ?_)) hm om0 H0 t σ H ok) fun k H1 ⟨om1, ⟨e1, p2, h2, e2⟩, o1⟩ => ?_
  · cases rx
    cases ry
    have hne : p ≠ p2 := fun z => by rw [z, h2] at hp; cases hp
    obtain ⟨ks, a1, a2, a3⟩ := ok.store p (.dct kvs) (by rw [ups_ne hne]; exact hp)
    obtain ⟨ls, b1, b2, b3⟩ := ok.store p2 (.dct []) ups_same
    have : ls = [] := by cases ls with
      | nil => rfl
      | cons _ _ => simp at b2
    subst this
    refine wR_of (op_neD0 hu) ⟨p, p2, ks, rfl, rfl, a1, b1, .bl (!kvs.isEmpty), _, ⟨_, rfl, rfl, p2, h2, rfl⟩, ok, ?_⟩
    have := dLen a2
    cases ks <;> cases kvs <;> first | rfl | simp at this
  · subst e1 e2
    have dl := dels_ups (o := .dct []) h2
    refine ⟨om, q, ?_⟩
    have st : Stable (ups om p2 (.dct [])) H1 om H1 := by
      have z := Stable.del (om := ups om p2 (.dct [])) (H := H1) (a := p2)
      rw [dl] at z
      exact z
    have S := o1.store.del (a := p2)
    rw [dl] at S
    exact o1.to S st
/-! {k: v, ..} -/
def wps (X : Cx) (R : RX) (ro : Ro) : Om → List (Option Expr) → List Expr → (List (Key × D) → Om → Prop) → Prop
  | om, some k :: ks, v :: vs, Q => ∃ key, wv X ro om k (kD key) ∧ we X R ro om v fun d om1 => wps X R ro om1 ks vs fun r om2 => Q ((key, d) :: r) om2
  | om, _, _, Q => Q [] om
def trsOf (X : Cx) : List (Option Expr) → List Expr → List (TE × TE)
  | some k :: ks, v :: vs => (pE X k, pE X v) :: trsOf X ks vs
  | _, _ => []
theorem pps_of : ∀ {ks : List (Option Expr)} {vs : List Expr}, ks.all (·.isSome) = true → ks.length = vs.length → PPs X pos ks vs (trsOf X ks vs)
  | [], [], _, _ => pps_nil
  | [], _ :: _, _, h => by simp at h
  | _ :: _, [], _, h => by simp at h
  | some k :: ks, v :: vs, h, l => pps_cons pE_pe pE_pe (pps_of (by simpa using h) (by simpa using l))
  | none :: _, _ :: _, h, _ => by simp at h
theorem pairs_of : ∀ {ks : List (Option Expr)} {vs : List Expr} {om : Om} {Q : List (Key × D) → Om → Prop}, ks.all (·.isSome) = true → ks.length = vs.length → wps X R ro om ks vs Q → ∀ {om0 : Om} {H0 : Hp} (t : Tk X om0 H0 R) {σ : L2.St} {H : Hp} (o : Ok X.K om0 H0 om H σ ro) {C : List (V × V) → Hp → Prop},
    (∀ ps H' kds om', Q kds om' → Ok X.K om0 H0 om' H' σ ro → Stable om H om' H' → ps.map (·.1) = kds.map (fun kv => kV kv.1) → RepL X.K om' H' (kds.map (·.2)) (ps.map (·.2)) → C ps H') → tPairs (trsOf X ks vs) σ H C
  | [], [], om, Q, _, _, h, om0, H0, t, σ, H, o, C, c => c [] H [] om h o Stable.refl rfl rfl
  | [], _ :: _, _, _, _, h, _, _, _, _, _, _, _, _, _ => by simp at h
  | _ :: _, [], _, _, _, h, _, _, _, _, _, _, _, _, _ => by simp at h
  | none :: _, _ :: _, _, _, h, _, _, _, _, _, _, _, _, _, _ => by simp at h
  | some k :: ks, v :: vs, om, Q, hk, hl, ⟨key, hw, hv⟩, om0, H0, t, σ, H, o, C, c => by
    refine v_run hw (t.at o.stab) (om0 := om) (H0 := H) ⟨o.store, Stable.refl, o.slot, o.len⟩ fun x H1 o1 r1 => ?_
    refine pE_mono (hv om H1 (t.at (o.stab.trans o1.stab)) σ H1 ⟨o1.store, Stable.refl, o1.slot, o1.len⟩) fun y H2 ⟨d, om2, hr, o2, r2⟩ => ?_
    have s2 : Stable om0 H0 om2 H2 := (o.stab.trans o1.stab).trans o2.stab
    cases kD_rep r1
    refine pairs_of (ks := ks) (vs := vs) (by simpa using hk) (by simpa using hl) hr (t.at s2) (om0 := om2) (H0 := H2) (σ := σ) (H := H2) ⟨o2.store, Stable.refl, o2.slot, o2.len⟩ fun ps H' kds om' q o3 s3 e rr => ?_
    exact c _ _ _ om' q ⟨o3.store, s2.trans s3, o3.slot, o3.len⟩ ((o1.stab.trans o2.stab).trans s3) (by simp only [List.map_cons, e]) ⟨_, _, rfl, r2.mono s3, rr⟩
def dMerge (kvs more : List (Key × D)) : List (Key × D) := more.foldl (fun acc kv => dPut acc kv.1 kv.2) kvs
theorem dMerge_rep {K : PySem.W.Frag} {H : Hp} : ∀ {more : List (Key × D)} {more' : List (Key × V)} {kvs : List (Key × D)} {kvs' : List (Key × V)}, more'.map (·.1) = more.map (·.1) → RepL K om H (more.map (·.2)) (more'.map (·.2)) → kvs'.map (·.1) = kvs.map (·.1) → RepL K om H (kvs.map (·.2)) (kvs'.map (·.2)) →
    (mergeK kvs' more').map (·.1) = (dMerge kvs more).map (·.1) ∧ RepL K om H ((dMerge kvs more).map (·.2)) ((mergeK kvs' more').map (·.2))
  | [], [], _, _, _, _, e, q => ⟨e, q⟩
  | [], _ :: _, _, _, h, _, _, _ => by simp at h
  | _ :: _, [], _, _, h, _, _, _ => by simp at h
  | (g, d) :: r, (g', v) :: r', kvs, kvs', h, q, e, q2 => by
    simp only [List.map_cons, List.cons.injEq] at h
    obtain ⟨rfl, h⟩ := h
    obtain ⟨x, t, ex, q1, q3⟩ := q
    simp only [List.map_cons, List.cons.injEq] at ex
    obtain ⟨rfl, rfl⟩ := ex
    obtain ⟨a, b⟩ := dPut_rep (k := g') q1 e q2
    exact dMerge_rep (more := r) (more' := r') h q3 a b
theorem kvs_of : ∀ {ps : List (V × V)} {kds : List (Key × D)}, ps.map (·.1) = kds.map (fun kv => kV kv.1) → ∃ kvs : List (Key × V), ps = kvs.map (fun kv => (kV kv.1, kv.2)) ∧ kvs.map (·.1) = kds.map (·.1) ∧ kvs.map (·.2) = ps.map (·.2)
  | [], [], _ => ⟨[], rfl, rfl, rfl⟩
  | [], _ :: _, h => by simp at h
  | _ :: _, [], h => by simp at h
  | (a, b) :: ps, (k, d) :: kds, h => by
    simp only [List.map_cons, List.cons.injEq] at h
    obtain ⟨rfl, h⟩ := h
    obtain ⟨kvs, h1, h2, h3⟩ := kvs_of h
    exact ⟨(k, b) :: kvs, by simp only [List.map_cons, h1], by simp only [List.map_cons, h2], by simp only [List.map_cons, h3]⟩
theorem e_disp {Q : DK} {keys : List (Option Expr)} {values : List Expr} (hall : keys.all (·.isSome) = true) (hl : keys.length = values.length) (h0 : keys ≠ []) (h15 : keys.length ≤ 15)
    (h : ∀ p, om p = none → wps X R ro (ups om p (.dct [])) keys values fun kds om2 => om2 p = some (.dct []) ∧ kds.length ≤ 15 ∧ Q (.obj p) (ups om2 p (.dct (dMerge [] kds)))) : we X R ro om (.Dict keys values pos) Q := .mk fun om0 H0 t σ H o => by
  refine pE_of (pe_disp (pps_of hall hl) hall hl h0 h15) fun p n => ?_
  have hn := o.store.fresh n
  have o1 : Ok X.K om0 H0 (ups om p (.dct [])) (upd H p (.dK [])) σ ro := o.to (o.store.mk n ⟨[], upd_same, rfl, rfl⟩) (Stable.mk n)
  refine pairs_of hall hl (h p hn) t o1 fun ps H' kds om2 ⟨hp, hz, q⟩ o2 s2 e rr => ?_
  obtain ⟨kvs0, e1, e2, e3⟩ := o2.store _ _ hp
  have : kvs0 = [] := by cases kvs0 with
    | nil => rfl
    | cons _ _ => simp at e2
  subst this
  obtain ⟨kvs, h1, h2, h3⟩ := kvs_of e
  rw [← h3] at rr
  obtain ⟨m1, m2⟩ := dMerge_rep (kvs := []) (kvs' := []) h2 rr rfl rfl
  refine ⟨e1, kvs, h1, by rw [dLen h2]; exact hz, _, _, q, o2.to (o2.store.put hp ⟨_, upd_same, m1, m2.mono (Stable.put hp)⟩) (Stable.put hp), rfl⟩
end
end Mo

set_option Elab.async false
set_option linter.all false
set_option maxRecDepth 100000
set_option maxHeartbeats 4000000
set_option autoImplicit false
/-! Steps of the laws' own account. -/
namespace Mo
open PySem PySem.Spec PyProof.Rows L2
section
variable {L L' : La} {s s' : ChSt} {om om' : Om} {fs fs' : List D}
theorem cm_note (d : Dd) : (s.note d).cm fs L = s.cm fs L := by funext k; cases k <;> rfl
theorem Nm.note {L0 : La} {s0 : ChSt} {om0 : Om} {fs0 : List D} (n : Nm fs0 L0 s0 om0 fs L s om) (d : Dd) : Nm fs0 L0 s0 om0 fs L (s.note d) om := by
  refine ⟨?_, ?_, n.c⟩
  · show Lay L ((s.note d).cm fs L) om
    rw [cm_note]
    exact n.ch
  · rw [cm_note]
    exact n.fr
theorem Md.setC (h : Md fs L s om) (h1 : s'.mots = s.mots) (h2 : s'.pile = s.pile) (h3 : s'.aside = s.aside) (h4 : s'.decided = s.decided) : Nm fs L s om fs L s' (ups om (L .c) (.dct (s'.fm L))) := by
  obtain ⟨a, b⟩ := h.put (l := .c) (ct1 := s'.cm fs L) (o := .dct (s'.fm L)) (Option.some_ne_none _) (fun k => by
    obtain ⟨_, _, _, _, _, _, _, _⟩ := s
    obtain ⟨_, _, _, _, _, _, _, _⟩ := s'
    cases h1; cases h2; cases h3; cases h4
    cases k <;> rfl)
  exact ⟨a, b, rfl⟩
theorem Md.ended (h : Md fs L s om) {ys : List Nat} {i : Nat} {w : Str} (e : s.pile = ys ++ [i]) : Nm fs L s om fs L (s.ended w) (ups (ups om (L .pi) (.lst (nums ys))) (L .de) (.lst (s.deD ++ [.tup [num i, .str w]]))) := by
  obtain ⟨a, b⟩ := h.put (l := .pi) (o := .lst (nums ys)) (Option.some_ne_none _) (fun k => rfl)
  obtain ⟨a2, b2⟩ := a.put (l := .de) (ct1 := (s.ended w).cm fs L) (o := .lst (s.deD ++ [.tup [num i, .str w]])) (Option.some_ne_none _) (fun k => by
    rw [ended_eq e]
    cases k <;> try rfl
    show some (DO.lst ((s.decided ++ [(i, w)]).map _)) = _
    rw [List.map_append]
    rfl)
  exact ⟨a2, b.trans b2, rfl⟩
theorem Md.setM (h : Md fs L s om) {i : Nat} {m : Mt} (hi : i < s.mots.length) (ho : om' (L (.m i)) = some (.lst [m.td.d, fs.getD i .non, .obj (L (.q i))])) (hc : om' (L (.q i)) = some (.lst (m.chL.map Ed.d))) (k : ∀ b o, b ≠ L (.m i) → b ≠ L (.q i) → om b = some o → om' b = some o) : Nm fs L s om fs L (s.setM i m) om' := by
  have hl : i < (s.setM i m).mots.length := by show i < (s.mots.set i m).length; rw [List.length_set]; exact hi
  have hmt := ChSt.mt_self (m := m) hi
  refine (fun (x : Lay L ((s.setM i m).cm fs L) om' ∧ Fr L (s.cm fs L) om L ((s.setM i m).cm fs L) om') => (⟨x.1, x.2, rfl⟩ : Nm fs L s om fs L (s.setM i m) om')) (h.to (fun l => l = .m i ∨ l = .q i) (ct1 := (s.setM i m).cm fs L) (om1 := om') (fun l o hS e => ?_) (fun l hS => ?_) (fun l hS => ?_) (fun b o hb e => k b o (hb _ (.inl rfl)) (hb _ (.inr rfl)) e))
  · rcases hS with rfl | rfl
    · rw [cm_m hl, hmt] at e
      cases e
      exact ho
    · rw [cm_q hl, hmt] at e
      cases e
      exact hc
  · have ne : l ≠ .m i := fun z => hS (.inl z)
    have ne2 : l ≠ .q i := fun z => hS (.inr z)
    cases l with
    | m j =>
      have hj : i ≠ j := fun z => ne (z ▸ rfl)
      show ((s.mots.set i m)[j]?).map _ = (s.mots[j]?).map _
      rw [List.getElem?_set_ne hj]
    | q j =>
      have hj : i ≠ j := fun z => ne2 (z ▸ rfl)
      show ((s.mots.set i m)[j]?).map _ = (s.mots[j]?).map _
      rw [List.getElem?_set_ne hj]
    | mo =>
      show some (DO.lst ((List.range (s.mots.set i m).length).map _)) = _
      rw [List.length_set]
      rfl
    | _ => rfl
  · rcases hS with rfl | rfl
    · rw [cm_m hi]; exact Option.some_ne_none _
    · rw [cm_q hi]; exact Option.some_ne_none _
theorem cm_aside {i : Nat} {u : Int} {r : List Nat} {p : Addr} (e : s.pile = i :: r) (hn : ∀ x ∈ s.aside, x.1 ≠ i) (k : Lb) : (s.setAside u).cm fs (L.aside i p) k =
    if k = .c then some (.dct ((s.setAside u).fm (L.aside i p))) else if k = .pi then some (.lst []) else if k = .as then some (.dct (s.asD L ++ [(.inl ((i : Int) + 1), .tup [.int u, .obj (L .pi)])])) else if k = .ap i then some (.lst (nums s.pile)) else s.cm fs L k := by
  have e2 := asD_aside (u := u) (p := p) (L := L) e hn
  have e3 := setAside_eq (u := u) e
  cases k with
  | c => rfl
  | pi => rw [e3]; rfl
  | as => rw [if_neg (by simp), if_neg (by simp), if_pos rfl, ← e2]; rfl
  | ap k =>
    show (s.setAside u).apF k = _
    rw [if_neg (c := Lb.ap k = Lb.c) (by simp), if_neg (c := Lb.ap k = Lb.pi) (by simp), if_neg (c := Lb.ap k = Lb.as) (by simp), apF_aside e hn]
    by_cases z : k = i
    · rw [if_pos z, if_pos (by rw [z])]
    · rw [if_neg z, if_neg (by simp [z])]
      rfl
  | mo => rw [e3]; rfl
  | de => rw [e3]; rfl
  | ro => rw [e3]; rfl
  | m j => rw [e3]; rfl
  | q j => rw [e3]; rfl
theorem Md.setAside (h : Md fs L s om) {i : Nat} {r : List Nat} {u : Int} {p : Addr} (e : s.pile = i :: r) (hn : ∀ x ∈ s.aside, x.1 ≠ i) (hp : om p = none) :
    Nm fs L s om fs (L.aside i p) (s.setAside u) (ups (ups (ups om (L .as) (.dct (s.asD L ++ [(.inl ((i : Int) + 1), .tup [.int u, .obj (L .pi)])]))) p (.lst [])) (L .c) (.dct ((s.setAside u).fm (L.aside i p)))) := by
  obtain ⟨a, b⟩ := Lay.aside (ct' := (s.setAside u).cm fs (L.aside i p)) (oc := .dct ((s.setAside u).fm (L.aside i p))) (oa := .dct (s.asD L ++ [(.inl ((i : Int) + 1), .tup [.int u, .obj (L .pi)])])) (pl := .lst (nums s.pile)) h (apF_none hn) rfl (Option.some_ne_none _) (Option.some_ne_none _) hp (cm_aside e hn)
  exact ⟨a, b, La.aside_ne (by simp) (by simp)⟩
theorem cm_unside (nd : (s.aside.map (·.1)).Nodup) {x : Nat × Int × List Nat} (hx : x ∈ s.aside) (k : Lb) : (s.unside x).cm fs (L.unside x.1) k =
    if k = .c then some (.dct ((s.unside x).fm (L.unside x.1))) else if k = .pi then s.cm fs L (.ap x.1) else if k = .as then some (.dct (dDrop (s.asD L) (.inl ((x.1 : Int) + 1)))) else if k = .ap x.1 then none else s.cm fs L k := by
  have e1 := asD_unside (s := s) (x := x) (L := L)
  cases k with
  | c => rfl
  | pi =>
    rw [if_neg (by simp), if_pos rfl]
    show some (DO.lst (nums x.2.2)) = s.apF x.1
    rw [apF_at nd hx]
  | as => rw [if_neg (by simp), if_neg (by simp), if_pos rfl, ← e1]; rfl
  | ap k =>
    show (s.unside x).apF k = _
    rw [if_neg (c := Lb.ap k = Lb.c) (by simp), if_neg (c := Lb.ap k = Lb.pi) (by simp), if_neg (c := Lb.ap k = Lb.as) (by simp), apF_unside]
    by_cases z : k = x.1
    · rw [if_pos z, if_pos (by rw [z])]
    · rw [if_neg z, if_neg (by simp [z])]
      rfl
  | mo =>
    show some (DO.lst _) = some (DO.lst _)
    congr 2
  | de => rfl
  | ro => rfl
  | m j =>
    show (s.mots[j]?).map _ = (s.mots[j]?).map _
    rw [La.unside_ne (by simp) (by simp)]
  | q j => rfl
theorem Md.unside (h : Md fs L s om) (nd : (s.aside.map (·.1)).Nodup) {x : Nat × Int × List Nat} (hx : x ∈ s.aside) :
    Nm fs L s om fs (L.unside x.1) (s.unside x) (ups (ups om (L .as) (.dct (dDrop (s.asD L) (.inl ((x.1 : Int) + 1))))) (L .c) (.dct ((s.unside x).fm (L.unside x.1)))) := by
  obtain ⟨a, b⟩ := Lay.unside (ct' := (s.unside x).cm fs (L.unside x.1)) (oc := .dct ((s.unside x).fm (L.unside x.1))) (oa := .dct (dDrop (s.asD L) (.inl ((x.1 : Int) + 1)))) (i := x.1) h (Option.some_ne_none _) (Option.some_ne_none _) (cm_unside nd hx)
  exact ⟨a, b, La.unside_ne (by simp) (by simp)⟩
/-- a motion is made: its list, its changes -/
theorem Md.push (h : Md fs L s om) (hfs : fs.length = s.mots.length) {t : Td} {a q : Addr} {d : D} (hq : om q = none) (ha : ups om q (.lst []) a = none) :
    Nm fs L s om (fs ++ [d]) (L.push s.mots.length a q) (s.push t) (ups (ups (ups (ups om q (.lst [])) a (.lst [t.d, d, .obj q])) (L .mo) (.lst (s.moD L ++ [.obj a]))) (L .pi) (.lst (nums s.pile ++ [num s.mots.length]))) := by
  have hne : a ≠ q := fun z => by rw [z, ups_same] at ha; cases ha
  have ha0 : om a = none := by rwa [ups_ne hne] at ha
  have E1 : Ext om (ups om q (.lst [])) := Ext.ups hq
  have E2 : Ext (ups om q (.lst [])) (ups (ups om q (.lst [])) a (.lst [t.d, d, .obj q])) := Ext.ups ha
  have a1 : Lay (L.put (.m s.mots.length) a) (fun k => if k = .m s.mots.length then some (.lst [t.d, d, .obj q]) else s.cm fs L k) (ups (ups om q (.lst [])) a (.lst [t.d, d, .obj q])) :=
    Lay.new h (fun k _ hk z => h.there hk (z ▸ ha0)) ups_same (E1.trans E2) (fun k => rfl)
  have a2 : Lay (L.push s.mots.length a q) (fun k => if k = .q s.mots.length then some (.lst []) else if k = .m s.mots.length then some (.lst [t.d, d, .obj q]) else s.cm fs L k) (ups (ups om q (.lst [])) a (.lst [t.d, d, .obj q])) := by
    refine a1.new (l := .q s.mots.length) (o := .lst []) (fun k hk hk2 => ?_) (by rw [ups_ne (Ne.symm hne), ups_same]) Ext.refl (fun k => rfl)
    by_cases z : k = .m s.mots.length
    · subst z
      rw [La.put_self]
      exact hne
    · rw [La.put_ne z]
      simp only [if_neg z] at hk2
      exact fun w => h.there hk2 (w ▸ hq)
  have pmo : (L.push s.mots.length a q) .mo = L .mo := by unfold La.push; rw [La.put_ne (by simp), La.put_ne (by simp)]
  have ppi : (L.push s.mots.length a q) .pi = L .pi := by unfold La.push; rw [La.put_ne (by simp), La.put_ne (by simp)]
  obtain ⟨a3, b3⟩ := a2.put (l := .mo) (o := .lst (s.moD L ++ [.obj a])) (by rw [if_neg (by simp), if_neg (by simp)]; exact Option.some_ne_none _) (fun k => rfl)
  obtain ⟨a4, b4⟩ := a3.put (l := .pi) (o := .lst (nums s.pile ++ [num s.mots.length])) (ct1 := (s.push t).cm (fs ++ [d]) (L.push s.mots.length a q)) (by rw [if_neg (by simp), if_neg (by simp), if_neg (by simp)]; exact Option.some_ne_none _) (fun k => by
    cases k with
    | c =>
      rw [if_neg (by simp), if_neg (by simp), if_neg (by simp), if_neg (by simp)]
      show some (DO.dct _) = some (DO.dct _)
      congr 2
    | mo =>
      rw [if_neg (by simp), if_pos rfl]
      show some (DO.lst ((List.range (s.mots ++ [t.mk]).length).map _)) = _
      rw [List.length_append, List.length_singleton, List.range_succ, List.map_append, List.map_cons, List.map_nil, La.push_mn, range_map_congr fun i hi => by rw [La.push_m (Nat.ne_of_lt hi)]]
      rfl
    | pi =>
      rw [if_pos rfl]
      show some (DO.lst (nums (s.pile ++ [s.mots.length]))) = _
      unfold nums
      rw [List.map_append]
      rfl
    | as =>
      rw [if_neg (by simp), if_neg (by simp), if_neg (by simp), if_neg (by simp)]
      show some (DO.dct ((s.push t).asD _)) = some (DO.dct (s.asD L))
      rfl
    | de => rfl
    | ro => rfl
    | m i =>
      rw [if_neg (by simp), if_neg (by simp), if_neg (by simp)]
      show ((s.mots ++ [t.mk])[i]?).map _ = _
      by_cases hi : i = s.mots.length
      · subst hi
        rw [if_pos rfl, List.getElem?_append_right (Nat.le_refl _), Nat.sub_self, La.push_qn, ← hfs]
        simp [Mt.td_mk]
      · rw [if_neg (by simp [hi]), La.push_q hi]
        show _ = (s.mots[i]?).map _
        by_cases hi2 : i < s.mots.length
        · rw [List.getElem?_append_left hi2, List.getD_eq_getElem?_getD, List.getElem?_append_left (by omega), ← List.getD_eq_getElem?_getD]
        · rw [List.getElem?_eq_none (by rw [List.length_append, List.length_singleton]; omega), List.getElem?_eq_none (by omega)]
          rfl
    | q i =>
      rw [if_neg (by simp), if_neg (by simp)]
      show ((s.mots ++ [t.mk])[i]?).map _ = _
      by_cases hi : i = s.mots.length
      · subst hi
        rw [if_pos rfl, List.getElem?_append_right (Nat.le_refl _), Nat.sub_self]
        cases t <;> rfl
      · rw [if_neg (by simp [hi]), if_neg (by simp)]
        show _ = (s.mots[i]?).map _
        by_cases hi2 : i < s.mots.length
        · rw [List.getElem?_append_left hi2]
        · rw [List.getElem?_eq_none (by rw [List.length_append, List.length_singleton]; omega), List.getElem?_eq_none (by omega)]
    | ap k => rfl)
  rw [pmo] at a3 b3 a4 b4
  rw [ppi] at a4 b4
  refine ⟨a4, ?_, by unfold La.push; rw [La.put_ne (by simp), La.put_ne (by simp)]⟩
  refine Fr.trans (Fr.trans ⟨fun b o hb n => ⟨(E1.trans E2) b o hb, fun l hl => ?_⟩⟩ b3) b4
  have na : b ≠ a := fun z => by rw [z, ha0] at hb; cases hb
  have nq : b ≠ q := fun z => by rw [z, hq] at hb; cases hb
  by_cases z : l = .q s.mots.length
  · subst z
    rw [La.push_qn]
    exact nq
  · by_cases z2 : l = .m s.mots.length
    · subst z2
      rw [La.push_mn]
      exact na
    · simp only [if_neg z, if_neg z2] at hl
      unfold La.push
      rw [La.put_ne z, La.put_ne z2]
      exact n l hl
end
/-- a refusal as the laws tell it -/
def Rf.d : Rf → D
  | .bar b => .tup [.str "bar", .int b] | .noMatter => .tup [.str "no matter", .int 0] | .noChange => .tup [.str "no change", .int 0] | .noFit => .tup [.str "no fit", .int 0] | .notLater n => .tup [.str "not later", .int n]
  | .nothing => .tup [.str "nothing", .int 0] | .tooMany => .tup [.str "too many", .int 0] | .noAside => .tup [.str "no aside", .int 0] | .notYet n => .tup [.str "not yet", .int n]
def Rf.p : Rf → PyData
  | .bar b => .tuple [.str "bar", .int b] | .noMatter => .tuple [.str "no matter", .int 0] | .noChange => .tuple [.str "no change", .int 0] | .noFit => .tuple [.str "no fit", .int 0] | .notLater n => .tuple [.str "not later", .int n]
  | .nothing => .tuple [.str "nothing", .int 0] | .tooMany => .tuple [.str "too many", .int 0] | .noAside => .tuple [.str "no aside", .int 0] | .notYet n => .tuple [.str "not yet", .int n]
theorem Rf.pd {om : Om} (r : Rf) : Pd om r.d r.p := by cases r <;> exact Pd.t (.cons (Pd.str _) (.cons (Pd.int _) .nil))
theorem Rf.pk {n : Nat} (r : Rf) : pokn (n + 1) r.p := by cases r <;> exact pokn_tuple (all_cons pokn_str (all_cons pokn_int all_nil))
/-- what a deed tells, as the laws tell it -/
def ChSt.due (s : ChSt) (e : Dd) : D := match s.ref e with
  | some r => r.d
  | none => .tup [.str "told", (s.ans e).d]
def ChSt.dueP (s : ChSt) (e : Dd) : PyData := match s.ref e with
  | some r => r.p
  | none => .tuple [.str "told", (s.ans e).p]
theorem due_pd {om : Om} {s : ChSt} {e : Dd} : Pd om (s.due e) (s.dueP e) := by
  unfold ChSt.due ChSt.dueP
  cases s.ref e with
  | some r => exact r.pd
  | none => exact Pd.t (.cons (Pd.str _) (.cons (s.ans e).pd .nil))
theorem due_pk {n : Nat} {s : ChSt} {e : Dd} : pokn (n + 1) (s.dueP e) := by
  unfold ChSt.dueP
  cases s.ref e with
  | some r => exact r.pk
  | none =>
    refine pokn_tuple (all_cons pokn_str (all_cons ?_ all_nil))
    cases s.ans e with
    | num i => exact pokn_int
    | word w => exact pokn_str
/-- a new account -/
theorem Md.six {c mo pi as de : Addr} {om : Om} {n : Int} (h1 : om c = some (.dct ((ChSt.new n).fm (La.of c mo pi as de c)))) (h2 : om mo = some (.lst [])) (h3 : om pi = some (.lst [])) (h4 : om as = some (.dct [])) (h5 : om de = some (.lst [])) (nd : [c, mo, pi, as, de].Nodup) : Md [] (La.of c mo pi as de c) (.new n) om := by
  have cl : ∀ k, (ChSt.new n).cm [] (La.of c mo pi as de c) k ≠ none → k = .c ∨ k = .mo ∨ k = .pi ∨ k = .as ∨ k = .de := fun k hk => by
    cases k with
    | m i => simp [ChSt.cm, ChSt.new] at hk
    | q i => simp [ChSt.cm, ChSt.new] at hk
    | ap i => simp [ChSt.cm, ChSt.new, ChSt.apF] at hk
    | ro => exact absurd rfl hk
    | _ => simp
  refine ⟨fun k o hk => ?_, fun k k' k1 k2 k3 => ?_⟩
  · have := cl k (by rw [hk]; exact Option.some_ne_none _)
    rcases this with rfl | rfl | rfl | rfl | rfl
    · cases hk; exact h1
    · cases hk; exact h2
    · cases hk; exact h3
    · cases hk; exact h4
    · cases hk; exact h5
  · simp only [List.nodup_cons, List.mem_cons, List.not_mem_nil, or_false, not_or] at nd
    rcases cl k k1 with rfl | rfl | rfl | rfl | rfl <;> rcases cl k' k2 with rfl | rfl | rfl | rfl | rfl <;> first | rfl | (exfalso; simp only [La.of] at k3; subst k3; simp at nd)
end Mo

set_option Elab.async false
set_option linter.all false
set_option maxRecDepth 100000
set_option maxHeartbeats 4000000
set_option autoImplicit false
/-! Questions about a told motion. -/
namespace Mo
open PySem PySem.Spec PyProof.Rows L2
/-- the edit of a told change with a clause -/
def tdEd : Td → Option Ed
  | .change (.cut _) => none
  | .change e => some e
  | _ => none
theorem tdEd_mt (m : Mt) : tdEd m.td = m.ed := by
  cases m with
  | change e => cases e <;> rfl
  | _ => rfl
theorem tdEd_some {u : Td} {x : Ed} (h : tdEd u = some x) : u = .change x ∧ (Mt.change x).ed = some x := by
  cases u with
  | change e => cases e <;> first | (cases h; exact ⟨rfl, rfl⟩) | cases h
  | _ => cases h
theorem in3 (k : Str) : ([PyData.str "matter", .str "rest", .str "point"].any fun e => PyData.eqv e (.str k)) = (decide (("matter" : Str) = k) || (decide (("rest" : Str) = k) || decide (("point" : Str) = k))) := by
  simp only [List.any_cons, List.any_nil, eqv_str, Bool.or_false]
theorem in2 (k : Str) : ([PyData.str "put off", .str "lay"].any fun e => PyData.eqv e (.str k)) = (decide (("put off" : Str) = k) || decide (("lay" : Str) = k)) := by
  simp only [List.any_cons, List.any_nil, eqv_str, Bool.or_false]
section
variable {X : Cx} {ro : Ro} {om : Om} {a a' : Expr} {u : Td} {j0 j1 j2 j3 j4 : Nat} {p0 p1 p2 p3 p4 p5 p6 p7 p8 p9 q0 q1 q2 pos : Pos}
theorem v_td0 (un : X.A.units + 1 < cLine) (h : wv X ro om a u.d) : wv X ro om (.Subscript a (.Constant (.int 0) j0 p0) p1) (.str u.kind) := v_ix h v_int Td.ix0 un
theorem v_ed0 (un : X.A.units + 1 < cLine) {e : Ed} (h : wv X ro om a (Td.change e).d) : wv X ro om (.Subscript (.Subscript a (.Constant (.int 1) j0 p0) p1) (.Constant (.int 0) j1 p2) p3) (.str e.kd) := v_ix (v_ix h v_int (ix_T rfl) un) v_int Ed.ix0 un
/-- a[0] == "change" and a[1][0] != "cut" -/
theorem tv_isCh (un : X.A.units + 1 < cLine) (h : wv X ro om a u.d) (h' : wv X ro om a' u.d) (m1 : behindInMarks .Eq (.Constant (.str "change") j1 p2) = false) (m2 : behindInMarks .NotEq (.Constant (.str "cut") j4 p8) = false) :
    wtv X ro om (.BoolOp .And [.Compare (.Subscript a (.Constant (.int 0) j0 p0) p1) [.Eq] [.Constant (.str "change") j1 p2] p3, .Compare (.Subscript (.Subscript a' (.Constant (.int 1) j2 p4) p5) (.Constant (.int 0) j3 p6) p7) [.NotEq] [.Constant (.str "cut") j4 p8] p9] pos) (tdEd u).isSome := by
  have h1 := tv_cmp (v_td0 (j0 := j0) (p0 := p0) (p1 := p1) un h) (v_str (x := "change") (j := j1) (pos := p2)) c_eqS m1 (pos := p3)
  cases u with
  | change e =>
    have h2 := tv_cmp (v_ed0 (j0 := j2) (p0 := p4) (p1 := p5) (j1 := j3) (p2 := p6) (p3 := p7) un h') (v_str (x := "cut") (j := j4) (pos := p8)) c_neS m2 (pos := p9)
    refine wtv_is (tv_bool (b_and h1 fun _ => b_and1 h2)) ?_
    cases e <;> rfl
  | _ =>
    refine wtv_is (tv_bool (b_and (k' := false) h1 fun z => absurd (show false = true from z) Bool.false_ne_true)) ?_
    rw [Bool.and_false]
    rfl
/-- a[0] != "change" or a[1][0] == "cut" -/
theorem tv_noCh (un : X.A.units + 1 < cLine) (h : wv X ro om a u.d) (h' : wv X ro om a' u.d) (m1 : behindInMarks .NotEq (.Constant (.str "change") j1 p2) = false) (m2 : behindInMarks .Eq (.Constant (.str "cut") j4 p8) = false) :
    wtv X ro om (.BoolOp .Or [.Compare (.Subscript a (.Constant (.int 0) j0 p0) p1) [.NotEq] [.Constant (.str "change") j1 p2] p3, .Compare (.Subscript (.Subscript a' (.Constant (.int 1) j2 p4) p5) (.Constant (.int 0) j3 p6) p7) [.Eq] [.Constant (.str "cut") j4 p8] p9] pos) (!(tdEd u).isSome) := by
  have h1 := tv_cmp (v_td0 (j0 := j0) (p0 := p0) (p1 := p1) un h) (v_str (x := "change") (j := j1) (pos := p2)) c_neS m1 (pos := p3)
  cases u with
  | change e =>
    have h2 := tv_cmp (v_ed0 (j0 := j2) (p0 := p4) (p1 := p5) (j1 := j3) (p2 := p6) (p3 := p7) un h') (v_str (x := "cut") (j := j4) (pos := p8)) c_eqS m2 (pos := p9)
    refine wtv_is (tv_bool (b_or h1 fun _ => b_or1 h2)) ?_
    cases e <;> rfl
  | _ =>
    refine wtv_is (tv_bool (b_or (k' := false) h1 fun z => absurd (show true = false from z) (Ne.symm Bool.false_ne_true))) ?_
    rfl
end
end Mo

set_option Elab.async false
set_option linter.all false
set_option maxRecDepth 100000
set_option maxHeartbeats 4000000
set_option autoImplicit false
/-! Drawn deeds; what a chamber never changes. -/
namespace Mo
open PySem PySem.Spec PyProof.Rows L2
def gdT : Td → Prop
  | .matter t => (∀ c ∈ t, IsCl c) ∧ t.length ≤ 40
  | .change e => e.at_ < 10 ^ 9 ∧ IsCl e.th
  | .mend e => e.at_ < 10 ^ 9 ∧ (e.kd ≠ "cut" → IsWord e.th)
  | .putOff n => 1 ≤ n ∧ n ≤ 999999999
  | .point s => IsCl s
  | _ => True
def gdD : Dd → Prop
  | .mv t => gdT t
  | .vote a n => wfI a ∧ wfI n
  | .drop => True
  | .take k => k < 10 ^ 9
theorem th_cut {e : Ed} (h : e.kd = "cut") : e.th = "" := by
  cases e with
  | cut a => rfl
  | put a s => exact absurd h (show ¬ (("put" : Str) = "cut") by decide)
  | turn a s => exact absurd h (show ¬ (("turn" : Str) = "cut") by decide)
theorem cl_nil : IsCl "" := ⟨[], fun _ h => (nomatch h), rfl, Nat.zero_le _⟩
theorem gdT.ok : ∀ {t : Td}, gdT t → okT t
  | .matter t, h => by
    have := sum_le (f := fun s : Str => s.length) (m := 2100) (l := t) fun x hx => (h.1 x hx).len
    have h2 : t.length ≤ 40 := h.2
    show _ ≤ _
    omega
  | .change e, h => ⟨Nat.le_trans h.2.len (by decide), Int.lt_trans h.1 (by decide)⟩
  | .mend e, h => ⟨by
    by_cases hk : e.kd = "cut"
    · rw [th_cut hk]; decide +kernel
    · exact Nat.le_trans (h.2 hk).hi (by decide), Int.lt_trans h.1 (by decide)⟩
  | .putOff n, h => by have := h.2; show n < 10 ^ 12; omega
  | .close, _ => trivial
  | .lay, _ => trivial
  | .rest, _ => trivial
  | .point s, h => Nat.le_trans (IsCl.len h) (by decide)
theorem gdD.ok : ∀ {e : Dd}, gdD e → okD e
  | .mv t, h => gdT.ok h
  | .vote a n, h => ⟨h.1.sm, h.2.sm⟩
  | .drop, _ => trivial
  | .take k, h => Int.lt_trans h (by decide)
/-- a drawn deed that is done has a row -/
theorem gdD.wf {s : ChSt} (wf : WF s) {e : Dd} (h : gdD e) (hr : s.ref e = none) : wfD e := by
  cases e with
  | vote a n => exact h
  | drop => trivial
  | take k =>
    have h : k < 10 ^ 9 := h
    refine ⟨?_, by omega⟩
    unfold ChSt.ref at hr
    by_cases e : s.pile = []
    · simp only [e] at hr
      cases hf : s.findA k with
      | none => simp [hf] at hr
      | some x => have := (findA_key hf).2; omega
    · simp only [ne_eq, e, not_false_eq_true, if_true] at hr
      cases hr
  | mv t =>
    have hl : s.lack t = none := hr
    have hs := okT.sm wf (gdT.ok h) hl
    cases t with
    | matter t => exact ⟨h.1, Nat.le_trans h.2 (by decide)⟩
    | change e =>
      have h1 := hs.1.1
      have h2 := h.1
      exact ⟨⟨h1, by omega⟩, h.2⟩
    | mend e =>
      have h1 := hs.1.1
      have h2 := h.1
      exact ⟨⟨h1, by omega⟩, h.2⟩
    | putOff n => exact h
    | point c => exact h
    | _ => trivial
namespace ChSt
variable {s : ChSt}
theorem settle_sit : s.settle.sitting = s.sitting ∧ s.settle.seats = s.seats := by unfold settle; split <;> exact ⟨rfl, rfl⟩
theorem setAside_sit {u : Int} : (s.setAside u).sitting = s.sitting ∧ (s.setAside u).seats = s.seats := by unfold setAside; split <;> exact ⟨rfl, rfl⟩
theorem keep_sit {m : Mt} : s.sitting ≤ (s.keep m).sitting ∧ (s.keep m).sitting ≤ s.sitting + 1 ∧ (s.keep m).seats = s.seats := by
  cases m with
  | change e =>
    unfold keep
    simp only
    cases s.mat with
    | none => exact ⟨Int.le_refl _, by show s.sitting ≤ s.sitting + 1; omega, rfl⟩
    | some i => exact ⟨Int.le_refl _, by show s.sitting ≤ s.sitting + 1; omega, rfl⟩
  | mend e =>
    unfold keep
    simp only
    cases s.pile.getLast? with
    | none => exact ⟨Int.le_refl _, by show s.sitting ≤ s.sitting + 1; omega, rfl⟩
    | some i => exact ⟨Int.le_refl _, by show s.sitting ≤ s.sitting + 1; omega, rfl⟩
  | putOff n =>
    have h := setAside_sit (s := s) (u := n)
    show s.sitting ≤ (s.setAside n).sitting ∧ (s.setAside n).sitting ≤ s.sitting + 1 ∧ (s.setAside n).seats = s.seats
    exact ⟨by omega, by omega, h.2⟩
  | lay =>
    have h := setAside_sit (s := s) (u := s.sitting)
    show s.sitting ≤ (s.setAside s.sitting).sitting ∧ (s.setAside s.sitting).sitting ≤ s.sitting + 1 ∧ (s.setAside s.sitting).seats = s.seats
    exact ⟨by omega, by omega, h.2⟩
  | rest => exact ⟨by show s.sitting ≤ s.sitting + 1; omega, Int.le_refl _, rfl⟩
  | _ => exact ⟨Int.le_refl _, by show s.sitting ≤ s.sitting + 1; omega, rfl⟩
theorem dec_sit {w : Str} : s.sitting ≤ (s.dec w).sitting ∧ (s.dec w).sitting ≤ s.sitting + 1 ∧ (s.dec w).seats = s.seats := by
  unfold dec
  cases hl : s.pile.getLast? with
  | none => exact ⟨Int.le_refl _, by show s.sitting ≤ s.sitting + 1; omega, rfl⟩
  | some i =>
    have e3 : (s.ended w).sitting = s.sitting ∧ (s.ended w).seats = s.seats := by unfold ended; rw [hl]; exact ⟨rfl, rfl⟩
    simp only
    have h1 := settle_sit (s := if w = "kept" then (s.ended w).keep (s.mt i) else s.ended w)
    rw [h1.1, h1.2]
    split
    · have := keep_sit (s := s.ended w) (m := s.mt i)
      rw [e3.1, e3.2] at this
      exact this
    · rw [e3.1, e3.2]
      exact ⟨Int.le_refl _, by omega, rfl⟩
theorem step_sit {e : Dd} : s.sitting ≤ (s.step e).sitting ∧ (s.step e).sitting ≤ s.sitting + 1 ∧ (s.step e).seats = s.seats := by
  have h0 : s.sitting ≤ s.sitting ∧ s.sitting ≤ s.sitting + 1 ∧ s.seats = s.seats := ⟨Int.le_refl _, by omega, rfl⟩
  unfold step
  cases s.ref e with
  | some r => exact h0
  | none =>
    show s.sitting ≤ (s.aft e).sitting ∧ (s.aft e).sitting ≤ s.sitting + 1 ∧ (s.aft e).seats = s.seats
    cases e with
    | mv t => exact h0
    | vote a n => exact dec_sit
    | drop => exact dec_sit
    | take k =>
      unfold aft
      simp only
      cases s.findA k <;> exact h0
end ChSt
/-- a chamber's own numbers -/
structure Frm (N : Nat) (s : ChSt) : Prop where
  lo : 1 ≤ s.seats
  hi : s.seats ≤ 10 ^ 9
  sit : s.sitting ≤ N + 1
theorem Frm.step {N : Nat} {s : ChSt} (h : Frm N s) (e : Dd) : Frm (N + 1) (s.step e) := by
  have k := s.step_sit (e := e)
  refine ⟨by rw [k.2.2]; exact h.lo, by rw [k.2.2]; exact h.hi, ?_⟩
  have := h.sit
  omega
theorem Frm.mono {N M : Nat} {s : ChSt} (h : Frm N s) (l : N ≤ M) : Frm M s := ⟨h.lo, h.hi, by have := h.sit; omega⟩
theorem Frm.new {n : Int} (h1 : 1 ≤ n) (h2 : n ≤ 10 ^ 9) : Frm 0 (.new n) := ⟨h1, h2, by show (1 : Int) ≤ 1; decide⟩
theorem at_ints : ∀ {l : List Int} {w : Int}, 0 ≤ w → w < l.length → ∃ i, i ∈ l ∧ atI (l.map D.int) w = some (.int i) := fun {l w} h0 h1 => by
  have h2 : w.toNat < l.length := by omega
  refine ⟨l[w.toNat], List.getElem_mem h2, ?_⟩
  have := atI_nat (xs := l.map D.int) (j := w.toNat) (by rw [List.getElem?_map, List.getElem?_eq_getElem h2]; rfl)
  rwa [show ((w.toNat : Nat) : Int) = w by omega] at this
theorem td_matter {m : Mt} (h : m.td.kind = "matter") : ∃ f t ch, m = .matter f t ch := by
  cases m with
  | matter f t ch => exact ⟨f, t, ch, rfl⟩
  | change e => exact absurd h (by show ¬ (("change" : Str) = "matter"); decide)
  | mend e => exact absurd h (by show ¬ (("mend" : Str) = "matter"); decide)
  | putOff n => exact absurd h (by show ¬ (("put off" : Str) = "matter"); decide)
  | close => exact absurd h (by show ¬ (("close" : Str) = "matter"); decide)
  | lay => exact absurd h (by show ¬ (("lay" : Str) = "matter"); decide)
  | rest => exact absurd h (by show ¬ (("rest" : Str) = "matter"); decide)
  | point c => exact absurd h (by show ¬ (("point" : Str) = "matter"); decide)
end Mo

set_option Elab.async false
set_option linter.all false
set_option maxRecDepth 100000
set_option maxHeartbeats 4000000
set_option autoImplicit false
/-! The refusals' classes together; new accounts. -/
namespace Mo
open PySem PySem.Spec PyProof.Rows L2
theorem rfN_all : ("Barred" : Str) ∈ rfN ∧ ("NoMatter" : Str) ∈ rfN ∧ ("NoChange" : Str) ∈ rfN ∧ ("NoFit" : Str) ∈ rfN ∧ ("NotLater" : Str) ∈ rfN ∧ ("Nothing" : Str) ∈ rfN ∧ ("TooMany" : Str) ∈ rfN ∧ ("NoAside" : Str) ∈ rfN ∧ ("NotYet" : Str) ∈ rfN := by decide +kernel
theorem Rf.nm_in (r : Rf) : r.nm ∈ rfN := by
  obtain ⟨h1, h2, h3, h4, h5, h6, h7, h8, h9⟩ := rfN_all
  cases r <;> assumption
/-- the refusals' classes by their names; an except clause of one takes it alone -/
structure Rfs (K : PySem.W.Frag) (mg : Str → Option Value) : Prop where
  g : ∀ x ∈ rfN, mg x = some (.ref (He.ga K x))
  ex : ∀ x ∈ rfN, ∀ y ∈ rfN, PySem.W.exmOne K (.ref (He.ga K x)) (.ref (He.ga K y)) = some (decide (x = y))
theorem fRfs_ok {K : PySem.W.Frag} {h : Heap} {mg : Str → Option Value} (X : K.In h) (G : h.Ns mainGlobals mg) (c : fRfs K = true) : Rfs K mg := by
  have c := List.all_eq_true.mp c
  refine ⟨fun x hx => ?_, fun x hx y hy => ?_⟩
  · have := c x hx
    rw [Bool.and_eq_true] at this
    exact fGlo_ok X G this.1
  · have := c x hx
    rw [Bool.and_eq_true] at this
    exact of_decide_eq_true (List.all_eq_true.mp this.2 y hy)
theorem Rfs.at_ {K : PySem.W.Frag} {mg : Str → Option Value} (h : Rfs K mg) (r : Rf) {y : Str} {b : Bool} (hy : y ∈ rfN) (e : decide (r.nm = y) = b) : PySem.W.exmOne K (.ref (r.cls K)) (.ref (He.ga K y)) = some b := by
  rw [← e]
  exact h.ex _ r.nm_in y hy
/-- an except clause of a class above takes every refusal -/
structure RfB (K : PySem.W.Frag) (mg : Str → Option Value) (y : Str) : Prop where
  g : mg y = some (.ref (He.ga K y))
  ex : ∀ x ∈ rfN, PySem.W.exmOne K (.ref (He.ga K x)) (.ref (He.ga K y)) = some true
theorem fRfB_ok {K : PySem.W.Frag} {h : Heap} {mg : Str → Option Value} {y : Str} (X : K.In h) (G : h.Ns mainGlobals mg) (c : fRfB y K = true) : RfB K mg y := by
  unfold fRfB at c
  rw [Bool.and_eq_true] at c
  exact ⟨fGlo_ok X G c.1, fun x hx => of_decide_eq_true (List.all_eq_true.mp c.2 x hx)⟩
/-- what a block wants of its ends, alone -/
theorem ws_abs {X : Cx} {F : De} {ro : Ro} {om : Om} {sts : List Stmt} (C : De → Prop) (h : ∀ F' : De, C F' → ws X F' ro om sts) (k : C F) : ws X F ro om sts := h F k
theorem fresh_ups {om : Om} {a b : Addr} {o : DO} (h : (ups om a o) b = none) : b ≠ a ∧ om b = none := by
  have : b ≠ a := fun e => by rw [e, ups_same] at h; cases h
  exact ⟨this, by rwa [ups_ne this] at h⟩
end Mo

set_option Elab.async false
set_option linter.all false
set_option maxRecDepth 100000
set_option maxHeartbeats 4000000
set_option autoImplicit false
/-! A pile's beginnings; comprehensions over three names; what is told of a deed done. -/
namespace Mo
open PySem PySem.Spec PyProof.Rows L2
theorem drawn_cl (c : Int) : IsCl (drawn c) := by
  refine ⟨_, fun x hx => ?_, rfl, ?_⟩
  · unfold clauseL clauseWs at hx
    obtain ⟨i, _, rfl⟩ := List.mem_map.mp hx
    exact word_ok _
  · unfold clauseL clauseWs
    rw [List.length_map, List.length_range]
    omega
theorem Good.pre : ∀ (r : List Mt) {l : List Mt}, Good (l ++ r) → Good l
  | [], l, h => by rwa [List.append_nil] at h
  | a :: r, l, h => by
    rw [← List.singleton_append, ← List.append_assoc] at h
    exact (Good.pre r h).init
theorem Good.take {l : List Mt} (h : Good l) (n : Nat) : Good (l.take n) := by
  rw [← List.take_append_drop n l] at h
  exact h.pre
theorem Good.len {l : List Mt} (h : Good l) : l.length ≤ 8 := by
  have := up_len l 0 (fun m _ => m.rank_lo) h.up (by omega) (by omega)
  omega
def DdOut (L : La) (ct : Ct) (x : D) : Dd → Prop
  | .mv _ => TdOut L ct x
  | _ => True
theorem DdOut.d {L : La} {ct : Ct} : ∀ e : Dd, DdOut L ct e.d e
  | .mv t => TdOut.d t
  | .vote _ _ => trivial | .drop => trivial | .take _ => trivial
/-- done or refused -/
def ChSt.doneD (s : ChSt) (e : Dd) : D := match s.ref e with
  | none => .tup [.bl true, (s.ans e).d]
  | some _ => .tup [.bl false, .non]
theorem done_ref {s : ChSt} {e : Dd} {r : Rf} (h : s.ref e = some r) : s.doneD e = .tup [.bl false, .non] ∧ s.step e = s := by
  unfold ChSt.doneD ChSt.step
  rw [h]
  exact ⟨rfl, rfl⟩
theorem done_ok {s : ChSt} {e : Dd} (h : s.ref e = none) : s.doneD e = .tup [.bl true, (s.ans e).d] ∧ s.step e = s.aft e := by
  unfold ChSt.doneD ChSt.step
  rw [h]
  exact ⟨rfl, rfl⟩
theorem td_kind0 (t : Td) : t.kind ≠ "vote" ∧ t.kind ≠ "take" ∧ t.kind ≠ "drop" := by cases t <;> (simp only [Td.kind]; decide)
theorem td_tup {om : Om} {x : D} : ∀ {t : Td}, TdAt om x t → ∃ r, x = .tup (.str t.kind :: r)
  | .matter t, h => by
    obtain ⟨y, e, _⟩ := h
    exact ⟨[y], e⟩
  | .change e, h => ⟨_, h⟩
  | .mend e, h => ⟨_, h⟩
  | .putOff n, h => ⟨_, h⟩
  | .close, h => ⟨_, h⟩
  | .lay, h => ⟨_, h⟩
  | .rest, h => ⟨_, h⟩
  | .point s, h => ⟨_, h⟩
theorem set3_wipe {α : Type} (W : List (Option α)) (i j k : Nat) (a b c : Option α) : ((((((W.set i a).set j b).set k c).set k none).set j none).set i none) = ((W.set k none).set j none).set i none := by
  apply List.ext_getElem?
  intro n
  simp only [List.getElem?_set, List.length_set]
  by_cases h1 : i = n <;> by_cases h2 : j = n <;> by_cases h3 : k = n <;> simp [h1, h2, h3]
theorem n_lc3 {X : Cx} {ro : Ro} {om : Om} {elt iter : Expr} {scope : Scope} {pos : Pos} {α : Type} {xs : List α} {f1 f2 f3 g : α → D} {Pm : Om → Prop} {xn yn zn : Str} {p q r tp : Pos} {tk : Nat} (i j l : Nat) {N : List Str} {sc : Scope} (hN : X.N = N) (hsc : X.env.scope = sc) (nd : X.N.Nodup) (hc : X.calm = true)
    (hb : blkB N sc scope [(xn, i), (yn, j), (zn, l)] = true) (hlx : (scope.names.lookup xn == some .local) = true) (hly : (scope.names.lookup yn == some .local) = true) (hlz : (scope.names.lookup zn == some .local) = true)
    (hi : Itd X ro om (.Tuple [.Name xn p, .Name yn q, .Name zn r] tk tp) iter (xs.map fun x => .tup [f1 x, f2 x, f3 x]) Pm) (hP : ∀ om', Ext om om' → Pm om') (hz : xs.length ≤ 100000)
    (he : ∀ (k : Nat) (x : α), xs[k]? = some x → ∀ (s : Shared) (H : Hp) (C : Addr) (cl : List (Str × Addr)) (fp : List Addr) (om' : Om), Ext om om' → wv (X.blk s H scope (compEnvC scope cl C X.env) fp) ((((((ro.set l none).set j none).set i none).set i (some (f1 x))).set j (some (f2 x))).set l (some (f3 x))) om' elt (g x)) (hs : ∀ x, foldedSetIterable iter X.env x = pure x := by intro _; rfl) :
    wn X ro om (.ListComp elt [⟨.Tuple [.Name xn p, .Name yn q, .Name zn r] tk tp, iter, [], 0⟩] scope pos) (xs.map g) := by
  have ok : BlkOk X.N X.env.scope scope [(xn, i), (yn, j), (zn, l)] := blk_ok hN hsc hb
  refine n_lc (own := [(xn, i), (yn, j), (zn, l)]) (g := gTup X.K 3 (gCons (gName i) (gCons (gName j) (gCons (gName l) gNil)))) (U := fun d ro => match d with | .tup [d1, d2, d3] => ((ro.set i (some d1)).set j (some d2)).set l (some d3) | _ => ro) hi hP (by rw [List.length_map, List.length_map]) (by rw [List.length_map]; exact hz) ?_ ?_ ?_ ok ?_ hc nd hs
  · intro s H C cl fp d hd
    obtain ⟨x, _, rfl⟩ := List.mem_map.mp hd
    exact tg_3 i j l
  · intro σ v H0 Q h
    obtain ⟨a, ys, e1, hq, hl, v1, r1, e2, v2, r2, e3, v3, r3, e4, e5, hQ⟩ := h
    refine ⟨a, ys, e1, hq, hl, v1, r1, e2, v2, r2, e3, v3, r3, e4, e5, ?_, hQ⟩
    show (((((((((σ.set l none).set j none).set i none).set i (some v1)).set j (some v2)).set l (some v3)).set l none).set j none).set i none) = ((σ.set l none).set j none).set i none
    rw [set3_wipe]
    apply List.ext_getElem?
    intro n
    simp only [List.getElem?_set, List.length_set]
    by_cases h1 : i = n <;> by_cases h2 : j = n <;> by_cases h3 : l = n <;> simp [h1, h2, h3]
  · intro k d z hd hzz
    obtain ⟨x, hx, rfl⟩ := map_item hd
    obtain ⟨x', hx', rfl⟩ := map_item hzz
    rw [hx] at hx'
    cases hx'
    exact he k x hx
  · intro s H C cl fp
    have ex : (X.blk s H scope (compEnvC scope cl C X.env) fp).env.scope.names.lookup xn = some .local := lookup_relabel_local (beq_iff_eq.mp hlx)
    have ey : (X.blk s H scope (compEnvC scope cl C X.env) fp).env.scope.names.lookup yn = some .local := lookup_relabel_local (beq_iff_eq.mp hly)
    have ez : (X.blk s H scope (compEnvC scope cl C X.env) fp).env.scope.names.lookup zn = some .local := lookup_relabel_local (beq_iff_eq.mp hlz)
    exact pg_tup (X := X.blk s H scope (compEnvC scope cl C X.env) fp) hc (pgs_cons (pg_name nd (ok.ix (xn, i) (by simp)) (.inl ex) (.inr ex)) (pgs_cons (pg_name nd (ok.ix (yn, j) (by simp)) (.inl ey) (.inr ey)) (pgs_cons (pg_name nd (ok.ix (zn, l) (by simp)) (.inl ez) (.inr ez)) pgs_nil))) rfl rfl
end Mo

set_option Elab.async false
set_option linter.all false
set_option maxRecDepth 100000
set_option maxHeartbeats 4000000
set_option autoImplicit false
/-! Lists of ints sorted, ranges as lists; a chamber's numbers, each once. -/
namespace Mo
open PySem PySem.Spec PyProof.Rows L2
section
variable {X : Cx} {R : RX} {ro : Ro} {om : Om} {a b : Expr} {x : D}
theorem b_sortedI {ns zs : List Int} (l : Lr om x (ns.map .int)) (hz : ∀ ys : List Int, ys.Perm ns → ys.Pairwise (· ≤ ·) → ys = zs) : Cn X om (.builtin "sorted") [x] (zs.map .int) := .of cr_sortedI fun H vs S r Q q => by
  obtain ⟨u, rfl, ru⟩ := one_rep r
  obtain ⟨p, xs, rfl, h1, h2⟩ := l.rep S ru
  rw [h2.ints] at h1
  refine ⟨p, ns, rfl, .inl (.inl h1), fun ys p' n1 n2 n3 => ?_⟩
  cases hz ys n1 n2
  exact q _ _ n3 RepL.of_ints
/-- list(range(a, b)) -/
theorem n_listRg {i j : Int} {p p2 pos pos2 : Pos} (h : wv X ro om a (.int i)) (h2 : wv X ro om b (.int j)) (B : Blt X.mg) (hc : X.calm = true) (g1 : Gl X "list") (g2 : Gl X "range") (hb : RgOk i j) (na : starEach [a, b] X.env = (false, eval a X.env) :: starEach [b] X.env := by rfl)
    (nb : starEach [b] X.env = (false, eval b X.env) :: starEach [] X.env := by rfl) (hp : (backTo pos2 (starEach [b] X.env)).any (·.1) = false := by rfl) (nn : starEach [.Call (.Name "range" p2) [a, b] [] pos2] X.env = (false, eval (.Call (.Name "range" p2) [a, b] [] pos2) X.env) :: starEach [] X.env := by rfl) :
    wn X ro om (.Call (.Name "list" p) [.Call (.Name "range" p2) [a, b] [] pos2] [] pos) ((List.range (j - i).toNat).map fun k : Nat => .int (i + k)) := .mk fun R Q q => .mk fun om0 H0 t σ H o => by
  refine pE_of (pe_listRg hc g1 B.list (prg_2 g2 B.range pE_pe pE_pe na nb hp) nn) ?_
  refine v_run h t o fun v H1 o1 r1 => ?_
  refine v_run h2 (t.at o1.stab) (om0 := om) (H0 := H1) ⟨o1.store, Stable.refl, o1.slot, o1.len⟩ fun u H2 o2 r2 => ?_
  cases r1
  cases r2
  have o3 : Ok X.K om0 H0 om H2 σ ro := ⟨o2.store, o1.stab.trans o2.stab, o2.slot, o2.len⟩
  refine ⟨i, j, rfl, rfl, hb, fun p0 n => ?_⟩
  have e : rgV i j = ((List.range (j - i).toNat).map fun k : Nat => i + (k : Int)).map V.int := by unfold rgV; rw [List.map_map]; rfl
  have e2 : ((List.range (j - i).toNat).map fun k : Nat => D.int (i + k)) = ((List.range (j - i).toNat).map fun k : Nat => i + (k : Int)).map D.int := by rw [List.map_map]; rfl
  rw [e]
  have := o3.newl n (RepL.of_ints (K := X.K) (om := om) (H := H2) (ns := (List.range (j - i).toNat).map fun k : Nat => i + (k : Int)))
  refine ⟨.obj p0, _, q p0 (o3.store.fresh n), ?_, rfl⟩
  rw [e2]
  exact this
end
namespace ChSt
variable {s : ChSt}
theorem settle_dec : s.settle.decided = s.decided := by unfold settle; split <;> rfl
theorem setAside_dec {u : Int} : (s.setAside u).decided = s.decided := by unfold setAside; split <;> rfl
theorem keep_dec {m : Mt} : (s.keep m).decided = s.decided := by
  cases m with
  | change e =>
    unfold keep
    simp only
    cases s.mat <;> rfl
  | mend e =>
    unfold keep
    simp only
    cases s.pile.getLast? <;> rfl
  | putOff n => exact setAside_dec
  | lay => exact setAside_dec
  | _ => rfl
theorem dec_dec {w : Str} {i : Nat} (h : s.pile.getLast? = some i) : (s.dec w).decided = s.decided ++ ([(i, w)] : List (Nat × Str)) := by
  have e3 : (s.ended w).decided = s.decided ++ ([(i, w)] : List (Nat × Str)) := by unfold ended; rw [h]
  unfold dec
  rw [h]
  simp only
  rw [settle_dec]
  split
  · rw [keep_dec, e3]
  · exact e3
theorem wd_in {a n : Int} : s.wd a n = "kept" ∨ s.wd a n = "lost" := by
  unfold wd
  split
  · exact .inr rfl
  · split
    · exact .inl rfl
    · exact .inr rfl
/-- at most one more is decided -/
theorem step_dec {e : Dd} : (s.step e).decided = s.decided ∨ ∃ (i : Nat) (w : Str), s.pile.getLast? = some i ∧ (s.step e).decided = s.decided ++ [(i, w)] ∧ (w = "kept" ∨ w = "lost" ∨ w = "dropped") := by
  unfold step
  cases hr : s.ref e with
  | some r => exact .inl rfl
  | none =>
    show (s.aft e).decided = s.decided ∨ ∃ (i : Nat) (w : Str), s.pile.getLast? = some i ∧ (s.aft e).decided = s.decided ++ [(i, w)] ∧ _
    cases e with
    | mv t => exact .inl rfl
    | vote a n =>
      cases hg : s.pile.getLast? with
      | none => exact .inl (by show (s.dec _).decided = _; unfold dec; rw [hg])
      | some i => exact .inr ⟨i, s.wd a n, rfl, dec_dec hg, wd_in.elim .inl (fun h => .inr (.inl h))⟩
    | drop =>
      cases hg : s.pile.getLast? with
      | none => exact .inl (by show (s.dec _).decided = _; unfold dec; rw [hg])
      | some i => exact .inr ⟨i, "dropped", rfl, dec_dec hg, .inr (.inr rfl)⟩
    | take k =>
      unfold aft
      simp only
      cases s.findA k <;> exact .inl rfl
theorem keep_mlen {m : Mt} : (s.keep m).mots.length = s.mots.length := by
  cases m with
  | change e =>
    unfold keep
    simp only
    cases s.mat with
    | none => rfl
    | some i => exact List.length_set
  | mend e =>
    unfold keep
    simp only
    cases s.pile.getLast? with
    | none => rfl
    | some i => exact List.length_set
  | putOff n => unfold keep setAside; simp only; cases s.pile <;> rfl
  | lay => unfold keep setAside; simp only; cases s.pile <;> rfl
  | _ => rfl
theorem dec_mlen' {w : Str} : (s.dec w).mots.length = s.mots.length := by
  unfold dec
  cases hl : s.pile.getLast? with
  | none => rfl
  | some i =>
    have e1 : ∀ v : ChSt, v.settle.mots = v.mots := fun v => by unfold settle; split <;> rfl
    have e3 : (s.ended w).mots = s.mots := by unfold ended; rw [hl]
    simp only
    rw [e1]
    split
    · rw [keep_mlen, e3]
    · rw [e3]
def isMv : Dd → Bool
  | .mv _ => true
  | _ => false
theorem step_mlen {e : Dd} : (s.step e).mots.length = s.mots.length + (if isMv e = true ∧ s.ref e = none then 1 else 0) := by
  unfold step
  cases hr : s.ref e with
  | some r => simp
  | none =>
    show (s.aft e).mots.length = _
    cases e with
    | mv t => show (s.mots ++ [t.mk]).length = _; simp [isMv]
    | vote a n => exact dec_mlen'
    | drop => exact dec_mlen'
    | take k =>
      unfold aft
      simp only
      cases s.findA k <;> rfl
/-- all numbers, as they are told -/
def allN (s : ChSt) : List Nat := s.pile ++ s.decided.map (·.1) ++ s.sortA.flatMap fun x => x.2.2
end ChSt
theorem WF.allN_perm {s : ChSt} (h : WF s) : s.allN.Perm (List.range s.mots.length) := by
  rw [List.perm_iff_count]
  intro a
  have h1 := h.pm a
  have h2 : (s.sortA.flatMap fun x => x.2.2).count a = (s.aside.flatMap fun x => x.2.2).count a := by
    have := (sortL_perm s.aside).flatMap_right (fun x => x.2.2)
    exact List.perm_iff_count.mp this a
  unfold ChSt.allN
  rw [List.count_append, List.count_append, h2]
  have h3 : (List.range s.mots.length).count a = if a < s.mots.length then 1 else 0 := by
    by_cases z : a < s.mots.length
    · rw [if_pos z]
      have h1 := List.nodup_iff_count.mp (List.nodup_range (n := s.mots.length)) a
      have h2 := List.count_pos_iff.mpr (List.mem_range.mpr z)
      omega
    · rw [if_neg z]
      exact List.count_eq_zero.mpr fun m => z (List.mem_range.mp m)
  rw [h3, ← h1]
  omega
/-- sorted they are 1, 2, .. -/
theorem WF.allN_sorted {s : ChSt} (h : WF s) (ys : List Int) (p : ys.Perm (s.allN.map fun i : Nat => (i : Int) + 1)) (hs : ys.Pairwise (· ≤ ·)) : ys = (List.range s.mots.length).map fun i : Nat => (i : Int) + 1 := by
  refine perm_sorted (p.trans (h.allN_perm.map _)) hs ?_
  rw [List.pairwise_map]
  exact List.pairwise_le_range.imp fun h => by omega
end Mo

set_option Elab.async false
set_option linter.all false
set_option maxRecDepth 100000
set_option maxHeartbeats 4000000
set_option autoImplicit false
/-! What a deed does to the motions. -/
namespace Mo
open PySem PySem.Spec PyProof.Rows L2
namespace ChSt
variable {s : ChSt}
/-- the change that is laid on a matter by a deed -/
def chg (s : ChSt) : Dd → Option (Nat × Ed)
  | .vote a n => if s.ref (.vote a n) = none ∧ s.wd a n = "kept" then (match s.pile.getLast?.map s.mt, s.pile.head? with
    | some (.change x), some i => some (i, x)
    | _, _ => none) else none
  | _ => none
theorem settle_mots : s.settle.mots = s.mots := by unfold settle; split <;> rfl
theorem setAside_mots {u : Int} : (s.setAside u).mots = s.mots := by unfold setAside; split <;> rfl
inductive Mstep (s s' : ChSt) (c : Option (Nat × Ed)) (e : Dd) : Prop
  | same (h : s'.mots = s.mots) (k : c = none) (n : isMv e = true → s.ref e ≠ none)
  | more (t : Td) (he : e = .mv t) (hr : s.ref e = none) (h : s'.mots = s.mots ++ [t.mk]) (k : c = none)
  | laid (i j : Nat) (x : Ed) (f t : List Str) (ch : List Ed) (hp : s.pile = [i, j]) (hi : i < s.mots.length) (hm : s.mt i = .matter f t ch) (hj : s.mt j = .change x) (ht : Ed.fits t.length x = true) (h : s'.mots = s.mots.set i (.matter f (Ed.laid t x) (ch ++ [x]))) (k : c = some (i, x)) (n : isMv e = false)
  | mend (i : Nat) (x y : Ed) (hi : i < s.mots.length) (hm : s.mt i = .change x) (h : s'.mots = s.mots.set i (.change y)) (k : c = none) (n : isMv e = false)
theorem dec_kept_mots {ys : List Nat} {i : Nat} {w : Str} (e : s.pile = ys ++ [i]) (hw : w ≠ "kept") : (s.dec w).mots = s.mots := by
  rw [dec_eq e, if_neg hw, settle_mots, ended_eq e]
theorem step_m (wf : WF s) (e : Dd) : Mstep s (s.step e) (s.chg e) e := by
  have stay : s.step e = s.step e := rfl
  unfold step
  cases hr : s.ref e with
  | some r =>
    refine .same rfl ?_ (fun _ => by rw [hr]; exact Option.some_ne_none _)
    cases e with
    | vote a n => unfold chg; simp only; rw [if_neg (fun z => by rw [hr] at z; cases z.1)]
    | _ => rfl
  | none =>
    show Mstep s (s.aft e) (s.chg e) e
    cases e with
    | mv t => exact .more t rfl hr rfl rfl
    | drop =>
      refine .same ?_ rfl (fun z => by cases z)
      show (s.dec "dropped").mots = _
      cases hg : s.pile.getLast? with
      | none => unfold dec; rw [hg]
      | some i => exact dec_kept_mots (last_of hg) (by decide)
    | take k =>
      refine .same ?_ rfl (fun z => by cases z)
      unfold aft
      simp only
      cases s.findA k <;> rfl
    | vote a n =>
      have ha : (s.aft (.vote a n)).mots = (s.dec (s.wd a n)).mots := rfl
      cases hg : s.pile.getLast? with
      | none =>
        refine .same ?_ ?_ (fun z => by cases z)
        · rw [ha]; unfold dec; rw [hg]
        · unfold chg; simp only; rw [hg]; split <;> rfl
      | some j =>
        have e := last_of hg
        by_cases hw : s.wd a n = "kept"
        · have hc : s.chg (.vote a n) = (match s.pile.getLast?.map s.mt, s.pile.head? with
              | some (.change x), some i => some (i, x)
              | _, _ => none) := by unfold chg; simp only; rw [if_pos ⟨hr, hw⟩]
          rw [hg, Option.map_some] at hc
          have hd : (s.aft (.vote a n)).mots = ((s.ended "kept").keep (s.mt j)).mots := by rw [ha, hw, dec_eq e, if_pos rfl, settle_mots]
          have ko := wf.keepOk (w := "kept") e
          have hmots : (s.ended "kept").mots = s.mots := by rw [ended_eq e]
          have hmt : ∀ i, (s.ended "kept").mt i = s.mt i := fun i => by unfold mt; rw [hmots]
          have hpl : (s.ended "kept").pile = s.pile.dropLast := by rw [ended_eq e]
          cases hm : s.mt j with
          | change x =>
            rw [hm] at hc hd ko
            obtain ⟨i, f, t, ch, h1, h2, h3⟩ := ko
            rw [hpl] at h1
            have hp : s.pile = [i, j] := by rw [e, h1]; rfl
            rw [WF.keep_change (by rw [hpl]; exact h1) h2] at hd
            rw [hmt] at h2
            refine .laid i j x f t ch hp (wf.lt (by rw [hp]; simp)) h2 hm h3 (by rw [hd]; show (s.ended "kept").mots.set i _ = _; rw [hmots]) ?_ rfl
            rw [hc, hp]
            rfl
          | mend x =>
            rw [hm] at hc hd ko
            obtain ⟨i0, i, f, t, ch, y, h1, h2, h3, h4, h5, h6⟩ := ko
            rw [WF.keep_mend h1 h3] at hd
            rw [hpl] at h1
            rw [hmt] at h3
            refine .mend i y _ (wf.lt (by rw [e, h1]; simp)) h3 (by rw [hd]; show (s.ended "kept").mots.set i _ = _; rw [hmots]) ?_ rfl
            rw [hc]
          | putOff n => exact .same (by rw [hd, hm]; exact setAside_mots.trans hmots) (by rw [hc, hm]) (fun z => by cases z)
          | lay => exact .same (by rw [hd, hm]; exact setAside_mots.trans hmots) (by rw [hc, hm]) (fun z => by cases z)
          | matter f t ch => exact .same (by rw [hd, hm]; exact hmots) (by rw [hc, hm]) (fun z => by cases z)
          | close => exact .same (by rw [hd, hm]; exact hmots) (by rw [hc, hm]) (fun z => by cases z)
          | rest => exact .same (by rw [hd, hm]; exact hmots) (by rw [hc, hm]) (fun z => by cases z)
          | point c => exact .same (by rw [hd, hm]; exact hmots) (by rw [hc, hm]) (fun z => by cases z)
        · refine .same (by rw [ha]; exact dec_kept_mots e hw) ?_ (fun z => by cases z)
          unfold chg
          simp only
          rw [if_neg (fun z => hw z.2)]
end ChSt
def fiL : Mt → List Str
  | .matter f _ _ => f
  | _ => []
theorem mt_of_mots {s s' : ChSt} (h : s'.mots = s.mots) (i : Nat) : s'.mt i = s.mt i := by unfold ChSt.mt; rw [h]
theorem mt_of_set {s s' : ChSt} {i : Nat} {m : Mt} (h : s'.mots = s.mots.set i m) (hi : i < s.mots.length) (j : Nat) : s'.mt j = if j = i then m else s.mt j := by
  have e : s'.mt j = (s.setM i m).mt j := by unfold ChSt.mt; rw [h]; rfl
  rw [e]
  by_cases z : j = i
  · subst z; rw [if_pos rfl, ChSt.mt_self hi]
  · rw [if_neg z, ChSt.mt_set z]
theorem mt_of_app {s s' : ChSt} {t : Td} (h : s'.mots = s.mots ++ [t.mk]) (j : Nat) (hj : j < s.mots.length) : s'.mt j = s.mt j := by
  have e : s'.mt j = (s.push t).mt j := by unfold ChSt.mt; rw [h]; rfl
  rw [e, ChSt.mt_push hj]
theorem mt_of_new {s s' : ChSt} {t : Td} (h : s'.mots = s.mots ++ [t.mk]) : s'.mt s.mots.length = t.mk := by
  have e : s'.mt s.mots.length = (s.push t).mt s.mots.length := by unfold ChSt.mt; rw [h]; rfl
  rw [e, ChSt.mt_push_self]
/-- what an old motion is behind a deed -/
theorem step_old {s : ChSt} (wf : WF s) (e : Dd) {i : Nat} (hi : i < s.mots.length) : ((s.step e).mt i).isMatter = (s.mt i).isMatter ∧ fiL ((s.step e).mt i) = fiL (s.mt i) ∧
    ((s.mt i).isMatter = true → (s.step e).mt i = match s.chg e with
      | some (j, x) => if i = j then (s.mt i).laidBy x else s.mt i
      | none => s.mt i) := by
  cases s.step_m wf e with
  | same h k n => rw [mt_of_mots h, k]; exact ⟨rfl, rfl, fun _ => rfl⟩
  | more t he hr h k => rw [mt_of_app h i hi, k]; exact ⟨rfl, rfl, fun _ => rfl⟩
  | laid i0 j x f t ch hp hi0 hm hj ht h k n =>
    rw [mt_of_set h hi0, k]
    by_cases z : i = i0
    · subst z
      rw [if_pos rfl, hm]
      exact ⟨rfl, rfl, fun _ => by simp [Mt.laidBy]⟩
    · rw [if_neg z]
      exact ⟨rfl, rfl, fun _ => by simp [z]⟩
  | mend i0 x y hi0 hm h k n =>
    rw [mt_of_set h hi0, k]
    by_cases z : i = i0
    · subst z
      rw [if_pos rfl, hm]
      exact ⟨rfl, rfl, fun w => by cases w⟩
    · rw [if_neg z]
      exact ⟨rfl, rfl, fun _ => rfl⟩
/-- a matter's text is its first one with the kept changes laid on -/
def Kpt (s : ChSt) : Prop := ∀ i, i < s.mots.length → ∀ f t ch, s.mt i = .matter f t ch → laidAll f ch = some t
theorem Kpt.new {n : Int} : Kpt (.new n) := fun i hi => by cases hi
theorem laidAll_snoc {f t : List Str} {ch : List Ed} {x : Ed} (h : laidAll f ch = some t) (hf : Ed.fits t.length x = true) : laidAll f (ch ++ [x]) = some (Ed.laid t x) := by
  unfold laidAll at h ⊢
  rw [List.foldl_append, h]
  show stepE (some t) x = _
  unfold stepE
  rw [Option.bind_some, if_pos hf]
theorem Kpt.step {s : ChSt} (wf : WF s) (kp : Kpt s) (e : Dd) : Kpt (s.step e) := by
  intro i hi f t ch hm
  cases s.step_m wf e with
  | same h k n => rw [mt_of_mots h] at hm; rw [h] at hi; exact kp i hi f t ch hm
  | more t0 he hr h k =>
    rw [h, List.length_append, List.length_singleton] at hi
    by_cases z : i < s.mots.length
    · rw [mt_of_app h i z] at hm
      exact kp i z f t ch hm
    · have : i = s.mots.length := by omega
      subst this
      rw [mt_of_new h] at hm
      cases t0 <;> cases hm
      rfl
  | laid i0 j x f0 t0 ch0 hp hi0 hm0 hj ht h k n =>
    rw [mt_of_set h hi0] at hm
    rw [h, List.length_set] at hi
    by_cases z : i = i0
    · rw [if_pos z] at hm
      cases hm
      exact laidAll_snoc (kp i0 hi0 f t0 ch0 hm0) ht
    · rw [if_neg z] at hm
      exact kp i hi f t ch hm
  | mend i0 x y hi0 hm0 h k n =>
    rw [mt_of_set h hi0] at hm
    rw [h, List.length_set] at hi
    by_cases z : i = i0
    · rw [if_pos z] at hm
      cases hm
    · rw [if_neg z] at hm
      exact kp i hi f t ch hm
section
variable {X : Cx} {ro : Ro} {om : Om} {e o : Expr} {es : List Expr} {pos apos : Pos} {m : Str} {a C : Addr} {fs : List (Str × D)} {k n : Nat} {G : Fs} {ds zs : List D}
/-- o.m(..) makes a new list -/
theorem n_meth {pl : Sem Bool} (ho : wv X ro om o (.obj a)) (hp : om a = some (.ins C fs)) (hl : fs.lookup m = none) (M : MethOk X.prog X.w X.K X.mg X.base C m k n G) (hr : Room k X.A) (ha : wav X ro om (e :: es) ds) (hn : ds.length + 1 = n)
    (g : Pn G om (.obj a :: ds) zs)
    (hst : starEach (e :: es) X.env = (false, eval e X.env) :: starEach es X.env := by rfl) (hpl : (backTo pos (starEach es X.env)).any (·.1) = false := by rfl)
    (ht : eval (.Call (.Attribute o m apos) (e :: es) [] pos) X.env = (do
      let ov ← eval o X.env
      standAt apos.atName
      let (f, first) ← holding [ov] (getMethod ov m pl)
      callWith pos f first (backTo pos (starEach (e :: es) X.env)) (backToKw pos (keywordEach [] X.env))) := by rfl) : wn X ro om (.Call (.Attribute o m apos) (e :: es) [] pos) zs := .mk fun R Q q =>
  e_m (pl := pl) ho hp hl M hr ha hn (g Q _ q) hst hpl ht
end
end Mo

set_option Elab.async false
set_option linter.all false
set_option maxRecDepth 100000
set_option maxHeartbeats 4000000
set_option autoImplicit false
/-! Dicts by a motion's number; the matters made so far. -/
namespace Mo
open PySem PySem.Spec PyProof.Rows L2
abbrev nK (i : Nat) : Key := .inl ((i : Int) + 1)
theorem nK_inj {i j : Nat} (h : nK i = nK j) : i = j := by have := Sum.inl.inj h; omega
def dKs (l : List Nat) (g : Nat → D) : List (Key × D) := l.map fun i => (nK i, g i)
section
variable {l : List Nat} {g : Nat → D} {i : Nat} {d : D}
theorem dKs_get (h : i ∈ l) : dGet (dKs l g) (nK i) = some (g i) := by
  unfold dGet dKs
  induction l with
  | nil => cases h
  | cons a l ih =>
    rw [List.map_cons, List.find?_cons]
    by_cases z : a = i
    · subst z; rw [decide_eq_true rfl]; rfl
    · rw [decide_eq_false (fun e => z (nK_inj e))]
      exact ih ((List.mem_cons.mp h).resolve_left (fun e => z e.symm))
theorem dKs_has : dHas (dKs l g) (nK i) = decide (i ∈ l) := by
  unfold dHas dKs
  rw [List.any_map]
  by_cases h : i ∈ l
  · rw [decide_eq_true h, List.any_eq_true]
    exact ⟨i, h, decide_eq_true rfl⟩
  · rw [decide_eq_false h, List.any_eq_false]
    intro x hx z
    have := nK_inj (of_decide_eq_true z)
    subst this
    exact h hx
theorem dKs_put (h : i ∈ l) : dPut (dKs l g) (nK i) d = dKs l (fun k => if k = i then d else g k) := by
  unfold dPut
  rw [dKs_has, decide_eq_true h, if_pos rfl]
  unfold dKs
  rw [List.map_map]
  refine List.map_congr_left fun k _ => ?_
  show (if nK k = nK i then _ else _) = _
  by_cases z : k = i
  · subst z; simp
  · rw [if_neg (fun e => z (nK_inj e))]
    simp [z]
theorem dKs_new (h : i ∉ l) : dPut (dKs l g) (nK i) d = dKs l g ++ [(nK i, d)] := by
  unfold dPut
  rw [dKs_has, decide_eq_false h]
  rfl
theorem dKs_snoc : dKs (l ++ [i]) g = dKs l g ++ [(nK i, g i)] := by
  unfold dKs
  rw [List.map_append]
  rfl
theorem dKs_cong {g' : Nat → D} (h : ∀ i ∈ l, g i = g' i) : dKs l g = dKs l g' := List.map_congr_left fun i hi => by rw [h i hi]
theorem dKs_keys : (dKs l g).map (·.1) = (l.map fun i : Nat => (i : Int) + 1).map Sum.inl := by
  unfold dKs
  rw [List.map_map, List.map_map]
  rfl
theorem dKs_len : (dKs l g).length = l.length := by unfold dKs; rw [List.length_map]
end
/-- the matters made so far -/
def matsL (s : ChSt) : List Nat := (List.range s.mots.length).filter fun i => (s.mt i).isMatter
theorem mats_mem {s : ChSt} {i : Nat} : i ∈ matsL s ↔ i < s.mots.length ∧ (s.mt i).isMatter = true := by
  unfold matsL
  rw [List.mem_filter, List.mem_range]
theorem mats_nodup {s : ChSt} : (matsL s).Nodup := List.Pairwise.filter _ List.nodup_range
theorem mats_len {s : ChSt} : (matsL s).length ≤ s.mots.length := Nat.le_trans (List.length_filter_le _ _) (by rw [List.length_range]; exact Nat.le_refl _)
/-- a matter is made by a deed -/
def isNew (s : ChSt) : Dd → Bool
  | .mv (.matter t) => (s.ref (.mv (.matter t))).isNone
  | _ => false
theorem isNew_mat {s : ChSt} {t : List Str} : isNew s (.mv (.matter t)) = (s.ref (.mv (.matter t))).isNone := rfl
theorem mats_step {s : ChSt} (wf : WF s) (e : Dd) : matsL (s.step e) = matsL s ++ (if isNew s e = true then [s.mots.length] else []) := by
  have hl := s.step_mlen (e := e)
  have hold : ((List.range s.mots.length).filter fun i => ((s.step e).mt i).isMatter) = matsL s := List.filter_congr fun i hi => (step_old wf e (List.mem_range.mp hi)).1
  unfold matsL at hold ⊢
  by_cases z : ChSt.isMv e = true ∧ s.ref e = none
  · rw [if_pos z] at hl
    rw [hl, List.range_succ, List.filter_append, hold]
    congr 1
    obtain ⟨z1, z2⟩ := z
    cases e with
    | mv t =>
      have hm : (s.step (.mv t)).mt s.mots.length = t.mk := by
        have : (s.step (.mv t)).mots = s.mots ++ [t.mk] := by
          unfold ChSt.step
          rw [z2]
          rfl
        exact mt_of_new this
      rw [List.filter_cons, hm]
      cases t with
      | matter t => rw [isNew_mat, z2]; rfl
      | _ => rfl
    | _ => cases z1
  · rw [if_neg z] at hl
    rw [hl, Nat.add_zero, hold]
    have : isNew s e = false := by
      cases e with
      | mv t =>
        cases t with
        | matter t =>
          rw [isNew_mat]
          cases hr : s.ref (.mv (.matter t)) with
          | none => exact absurd ⟨rfl, hr⟩ z
          | some r => rfl
        | _ => rfl
      | _ => rfl
    rw [this]
    simp
/-- a new matter, as it is made -/
theorem new_mt {s : ChSt} {t : List Str} (h : s.ref (.mv (.matter t)) = none) : (s.step (.mv (.matter t))).mt s.mots.length = .matter t t [] := by
  have : (s.step (.mv (.matter t))).mots = s.mots ++ [(Td.matter t).mk] := by
    unfold ChSt.step
    rw [h]
    rfl
  exact mt_of_new this
/-- the change on top, ahead of a vote -/
def preC (s : ChSt) : Dd → Option Ed
  | .vote _ _ => match s.pile.getLast?.map s.mt with
    | some (.change x) => some x
    | _ => none
  | _ => none
theorem preC_chg {s : ChSt} (wf : WF s) (e : Dd) : (if (s.ref e = none ∧ s.ans e = .word "kept") then preC s e else none) = (s.chg e).map (·.2) := by
  cases e with
  | vote a n =>
    unfold ChSt.chg preC
    simp only
    by_cases z : s.ref (.vote a n) = none ∧ s.wd a n = "kept"
    · rw [if_pos z, if_pos ⟨z.1, by show An.word (s.wd a n) = _; rw [z.2]⟩]
      cases hg : s.pile.getLast? with
      | none => rfl
      | some j =>
        have hne : s.pile ≠ [] := fun w => by rw [w] at hg; cases hg
        obtain ⟨i, r, hp⟩ := List.exists_cons_of_ne_nil hne
        rw [hp, List.head?_cons, Option.map_some]
        cases s.mt j <;> rfl
    · rw [if_neg z, if_neg (fun w => z ⟨w.1, by have := w.2; exact (An.word.inj this)⟩)]
      rfl
  | _ => split <;> rfl
theorem chg_head {s : ChSt} {e : Dd} {i : Nat} {x : Ed} (h : s.chg e = some (i, x)) : s.pile.head? = some i := by
  cases e with
  | vote a n =>
    unfold ChSt.chg at h
    simp only at h
    split at h
    · split at h
      · next h1 => cases h; exact h1
      · cases h
    · cases h
  | _ => cases h
theorem Td.of_change : ∀ {t : Td}, t.kind = "change" → ∃ e, t = .change e
  | .change e, _ => ⟨e, rfl⟩
  | .matter _, h => absurd h (show ¬ (("matter" : Str) = "change") by decide)
  | .mend _, h => absurd h (show ¬ (("mend" : Str) = "change") by decide)
  | .putOff _, h => absurd h (show ¬ (("put off" : Str) = "change") by decide)
  | .close, h => absurd h (show ¬ (("close" : Str) = "change") by decide)
  | .lay, h => absurd h (show ¬ (("lay" : Str) = "change") by decide)
  | .rest, h => absurd h (show ¬ (("rest" : Str) = "change") by decide)
  | .point _, h => absurd h (show ¬ (("point" : Str) = "change") by decide)
theorem Mt.of_change {m : Mt} (h : m.td.kind = "change") : ∃ e, m = .change e := by
  obtain ⟨e, he⟩ := Td.of_change h
  cases m <;> first | exact ⟨_, rfl⟩ | cases he
theorem Dd.of_vote : ∀ {e : Dd}, e.kd = "vote" → ∃ a n, e = .vote a n
  | .vote a n, _ => ⟨a, n, rfl⟩
  | .mv t, h => absurd h (td_kind0 t).1
  | .drop, h => absurd h (show ¬ (("drop" : Str) = "vote") by decide)
  | .take _, h => absurd h (show ¬ (("take" : Str) = "vote") by decide)
def topK (s : ChSt) : Str := match s.pile.getLast? with
  | some i => (s.mt i).td.kind
  | none => ""
theorem preC_some {s : ChSt} {e : Dd} {ys : List Nat} {i : Nat} {x : Ed} (hp : s.pile = ys ++ [i]) (hm : s.mt i = .change x) (hv : e.kd = "vote") : preC s e = some x := by
  obtain ⟨a, n, rfl⟩ := Dd.of_vote hv
  unfold preC
  simp only
  rw [hp, List.getLast?_concat, Option.map_some, hm]
theorem preC_none {s : ChSt} {e : Dd} (h : ¬ (s.pile ≠ [] ∧ e.kd = "vote" ∧ topK s = "change")) : preC s e = none := by
  cases e with
  | vote a n =>
    unfold preC
    simp only
    unfold topK at h
    cases hg : s.pile.getLast? with
    | none => rfl
    | some i =>
      rw [hg] at h
      rw [Option.map_some]
      cases hm : s.mt i with
      | change x => exact absurd ⟨(fun z => by rw [z] at hg; cases hg), rfl, by show (s.mt i).td.kind = _; rw [hm]; rfl⟩ h
      | _ => rfl
  | _ => rfl
theorem isNew_eq {s : ChSt} {e : Dd} : isNew s e = ((s.ref e).isNone && decide (e.kd = "matter")) := by
  by_cases h : e.kd = "matter"
  · obtain ⟨t, rfl⟩ := Dd.of_matter h
    rw [decide_eq_true h, Bool.and_true]
    rfl
  · rw [decide_eq_false h, Bool.and_false]
    unfold isNew
    split
    · exact absurd rfl h
    · rfl
def ChSt.doneP (s : ChSt) (e : Dd) : PyData := match s.ref e with
  | none => .tuple [.bool true, (s.ans e).p]
  | some _ => .tuple [.bool false, .none]
theorem done_pd {om : Om} {s : ChSt} {e : Dd} : Pd om (s.doneD e) (s.doneP e) := by
  unfold ChSt.doneD ChSt.doneP
  cases s.ref e with
  | none => exact Pd.t (.cons (Pd.bl _) (.cons (An.pd _) .nil))
  | some r => exact Pd.t (.cons (Pd.bl _) (.cons Pd.non .nil))
theorem done_pk {n : Nat} {s : ChSt} {e : Dd} : pokn (n + 1) (s.doneP e) := by
  unfold ChSt.doneP
  cases s.ref e with
  | none => cases s.ans e <;> exact pokn_tuple (all_cons pokn_bool (all_cons (by first | exact pokn_int | exact pokn_str) all_nil))
  | some r => exact pokn_tuple (all_cons pokn_bool (all_cons pokn_none all_nil))
theorem done_kept {s : ChSt} {e : Dd} : PyData.eqv (s.doneP e) (.tuple [.bool true, .str "kept"]) = decide (s.ref e = none ∧ s.ans e = .word "kept") := by
  unfold ChSt.doneP
  cases hr : s.ref e with
  | some r => simp [PyData.eqv, PyData.eqvAll]
  | none =>
    cases ha : s.ans e with
    | num i => simp [PyData.eqv, PyData.eqvAll, An.p]
    | word w =>
      show (PyData.eqv (.bool true) (.bool true) && (PyData.eqv (.str w) (.str "kept") && true)) = _
      rw [eqv_str]
      simp [PyData.eqv]
/-- the first texts, the kept changes, by a matter's number -/
def fiG (s : ChSt) (i : Nat) : D := .lst ((fiL (s.mt i)).map .str)
def keG (s : ChSt) (i : Nat) : D := .lst ((s.mt i).chL.map Ed.d)
def keO (s : ChSt) (i : Nat) : D := if i < s.mots.length then keG s i else .lst []
/-- what is laid on a matter -/
def chgAt (s : ChSt) (e : Dd) (i : Nat) : Option Ed := match s.chg e with
  | some (j, x) => if i = j then some x else none
  | none => none
theorem fi_step {s : ChSt} (wf : WF s) {e : Dd} : dKs (matsL (s.step e)) (fiG (s.step e)) = if isNew s e = true then dKs (matsL s) (fiG s) ++ [(nK s.mots.length, fiG (s.step e) s.mots.length)] else dKs (matsL s) (fiG s) := by
  have h1 : dKs (matsL s) (fiG (s.step e)) = dKs (matsL s) (fiG s) := dKs_cong fun i hi => by
    unfold fiG
    rw [(step_old wf e (mats_mem.mp hi).1).2.1]
  rw [mats_step wf]
  split
  · rw [dKs_snoc, h1]
  · rw [List.append_nil, h1]
theorem ke_step {s : ChSt} (wf : WF s) {e : Dd} : dKs (matsL (s.step e)) (keO s) = if isNew s e = true then dKs (matsL s) (keG s) ++ [(nK s.mots.length, .lst [])] else dKs (matsL s) (keG s) := by
  have h1 : dKs (matsL s) (keO s) = dKs (matsL s) (keG s) := dKs_cong fun i hi => by
    unfold keO
    rw [if_pos (mats_mem.mp hi).1]
  have h2 : keO s s.mots.length = .lst [] := by unfold keO; rw [if_neg (Nat.lt_irrefl _)]
  rw [mats_step wf]
  split
  · rw [dKs_snoc, h1, h2]
  · rw [List.append_nil, h1]
/-- a matter's changes behind a deed -/
theorem ch_step {s : ChSt} (wf : WF s) {e : Dd} {i : Nat} (hi : i ∈ matsL (s.step e)) : ∃ bs : List Ed, keO s i = .lst (bs.map Ed.d) ∧ ((s.step e).mt i).chL = bs ++ (chgAt s e i).toList := by
  by_cases z : i < s.mots.length
  · obtain ⟨h1, h2, h3⟩ := step_old wf e z
    refine ⟨(s.mt i).chL, by unfold keO; rw [if_pos z]; rfl, ?_⟩
    have hm := (mats_mem.mp hi).2
    rw [h1] at hm
    rw [h3 hm]
    unfold chgAt
    obtain ⟨f, t, ch, hmt⟩ := Mt.matter_of hm
    cases hc : s.chg e with
    | none => exact (List.append_nil _).symm
    | some jx =>
      obtain ⟨j, x⟩ := jx
      simp only
      by_cases w : i = j
      · rw [if_pos w, if_pos w, hmt]
        rfl
      · rw [if_neg w, if_neg w]
        exact (List.append_nil _).symm
  · refine ⟨[], by unfold keO; rw [if_neg z]; rfl, ?_⟩
    rw [mats_step wf] at hi
    rcases List.mem_append.mp hi with h | h
    · exact absurd (mats_mem.mp h).1 z
    · split at h
      · next hn =>
        rw [List.mem_singleton] at h
        rw [isNew_eq, Bool.and_eq_true] at hn
        obtain ⟨t, rfl⟩ := Dd.of_matter (of_decide_eq_true hn.2)
        have hr : s.ref (.mv (.matter t)) = none := by
          have := hn.1
          cases hr : s.ref (.mv (.matter t)) with
          | none => rfl
          | some r => rw [hr] at this; cases this
        rw [h, new_mt hr]
        rfl
      · cases h
theorem chgAt_no {s : ChSt} {e : Dd} {i : Nat} (h : s.pile = [] ∨ ∃ j r, s.pile = j :: r ∧ j ≠ i) : chgAt s e i = none := by
  unfold chgAt
  split
  · next j x hc =>
    have hh := chg_head hc
    by_cases w : i = j
    · subst w
      rcases h with h | ⟨k, r, h, hn⟩
      · rw [h] at hh; cases hh
      · rw [h] at hh
        exact absurd (Option.some.inj hh) hn
    · rw [if_neg w]
  · rfl
theorem chgAt_yes {s : ChSt} {e : Dd} {i : Nat} {r : List Nat} (h : s.pile = i :: r) : chgAt s e i = (s.chg e).map (·.2) := by
  unfold chgAt
  split
  · next j x hc =>
    have hh := chg_head hc
    rw [h] at hh
    cases hh
    rw [if_pos rfl, hc]
    rfl
  · next hc => rw [hc]; rfl
end Mo

set_option Elab.async false
set_option linter.all false
set_option maxRecDepth 100000
set_option maxHeartbeats 4000000
set_option autoImplicit false
/-! What isinstance tells of the refusals; what is caught; chambers apart. -/
namespace Mo
open PySem PySem.Spec PyProof.Rows L2
structure Kits (K : PySem.W.Frag) (mg : Str → Option Value) (xs ys : List Str) : Prop where
  xi : ∀ x ∈ xs, Xis K (He.ga K x)
  g : ∀ y ∈ ys, mg y = some (.ref (He.ga K y))
  k : ∀ x ∈ xs, ∀ y ∈ ys, PySem.W.kitOne K (.ref (He.ga K x)) (.ref (He.ga K y)) = some (decide (x = y))
theorem fKits_ok {K : PySem.W.Frag} {h : Heap} {mg : Str → Option Value} {xs ys : List Str} (X : K.In h) (G : h.Ns mainGlobals mg) (c : fKits xs ys K = true) : Kits K mg xs ys := by
  unfold fKits at c
  rw [Bool.and_eq_true, Bool.and_eq_true] at c
  obtain ⟨⟨c1, c2⟩, c3⟩ := c
  exact ⟨fun x hx => fXi_ok (List.all_eq_true.mp c1 x hx), fun y hy => fGlo_ok X G (List.all_eq_true.mp c2 y hy), fun x hx y hy => of_decide_eq_true (List.all_eq_true.mp (List.all_eq_true.mp c3 x hx) y hy)⟩
theorem fKitN_ok {K : PySem.W.Frag} {ys : List Str} (c : fKitN ys K = true) : ∀ y ∈ ys, PySem.W.kitOne K (.type "NoneType") (.ref (He.ga K y)) = some false := fun y hy => of_decide_eq_true (List.all_eq_true.mp c y hy)
theorem fKitV_ok {K : PySem.W.Frag} {xs : List Str} {t : String} {b : Bool} (c : fKitV xs t b K = true) : ∀ x ∈ xs, PySem.W.kitOne K (.ref (He.ga K x)) (.type t) = some b := fun x hx => of_decide_eq_true (List.all_eq_true.mp c x hx)
/-- what an except clause kept: nothing, or the refusal -/
def CaughtAt (K : PySem.W.Frag) (om : Om) (x : D) : Option Rf → Prop
  | none => x = .non
  | some r => ∃ a, x = .obj a ∧ om a = some (.exc (r.cls K) r.fs)
theorem CaughtAt.ext {K : PySem.W.Frag} {om om' : Om} {x : D} {o : Option Rf} (h : CaughtAt K om x o) (E : Ext om om') : CaughtAt K om' x o := by
  cases o with
  | none => exact h
  | some r =>
    obtain ⟨a, e, ha⟩ := h
    exact ⟨a, e, E _ _ ha⟩
/-- .. newly -/
def CaughtNew (K : PySem.W.Frag) (om0 om : Om) (x : D) : Option Rf → Prop
  | none => x = .non
  | some r => ∃ a, om0 a = none ∧ x = .obj a ∧ om a = some (.exc (r.cls K) r.fs)
theorem CaughtNew.at_ {K : PySem.W.Frag} {om0 om : Om} {x : D} {o : Option Rf} (h : CaughtNew K om0 om x o) : CaughtAt K om x o := by
  cases o with
  | none => exact h
  | some r =>
    obtain ⟨a, _, e, ha⟩ := h
    exact ⟨a, e, ha⟩
theorem CaughtNew.fr {K : PySem.W.Frag} {om0 om om' : Om} {x : D} {o : Option Rf} {L L' : La} {ct ct' : Ct} (h : CaughtNew K om0 om x o) (l : Lay L ct om0) (f : Fr L ct om L' ct' om') : CaughtAt K om' x o := by
  cases o with
  | none => exact h
  | some r =>
    obtain ⟨a, h0, e, ha⟩ := h
    exact ⟨a, e, (f.go a _ ha (l.out h0)).1⟩
def clsN : List Str := ["Barred", "NoMatter", "NoChange", "NoFit", "NotLater", "Nothing", "TooMany", "NoAside", "NotYet"]
def isR (o : Option Rf) (n : Str) : Bool := match o with
  | none => false
  | some r => decide (r.nm = n)
def valR : Option Rf → D
  | some (.bar b) => .int b
  | some (.notLater n) => .int n
  | some (.notYet n) => .int n
  | _ => .non
def valP : Option Rf → PyData
  | some (.bar b) => .int b
  | some (.notLater n) => .int n
  | some (.notYet n) => .int n
  | _ => .none
theorem valR_pd {om : Om} : ∀ {o : Option Rf}, Pd om (valR o) (valP o)
  | none => Pd.non
  | some (.bar b) => Pd.int b
  | some (.notLater n) => Pd.int n
  | some (.notYet n) => Pd.int n
  | some .noMatter => Pd.non
  | some .noChange => Pd.non
  | some .noFit => Pd.non
  | some .nothing => Pd.non
  | some .tooMany => Pd.non
  | some .noAside => Pd.non
theorem valR_pk {n : Nat} : ∀ {o : Option Rf}, pokn n (valP o)
  | none => pokn_none
  | some (.bar b) => pokn_int
  | some (.notLater n) => pokn_int
  | some (.notYet n) => pokn_int
  | some .noMatter => pokn_none
  | some .noChange => pokn_none
  | some .noFit => pokn_none
  | some .nothing => pokn_none
  | some .tooMany => pokn_none
  | some .noAside => pokn_none
end Mo

set_option Elab.async false
set_option linter.all false
set_option maxRecDepth 100000
set_option maxHeartbeats 4000000
set_option autoImplicit false
/-! Minutes: the deeds that were done, in order. -/
namespace Mo
open PySem PySem.Spec PyProof.Rows L2
abbrev runS (S : Int) (es : List Dd) : ChSt := es.foldl ChSt.step (.new S)
theorem run_snoc {S : Int} {es : List Dd} {e : Dd} : runS S (es ++ [e]) = (runS S es).step e := by unfold runS; rw [List.foldl_append]; rfl
theorem run_take {S : Int} {es : List Dd} {i : Nat} {e : Dd} (h : es[i]? = some e) : runS S (es.take (i + 1)) = (runS S (es.take i)).step e := by
  have hi := (List.getElem?_eq_some_iff.mp h)
  rw [List.take_succ_eq_append_getElem hi.1, run_snoc, hi.2]
theorem run_wf {S : Int} : ∀ es : List Dd, WF (runS S es) := fun es => by
  have : ∀ (es : List Dd) (s : ChSt), WF s → WF (es.foldl ChSt.step s) := fun es => by
    induction es with
    | nil => exact fun s h => h
    | cons e es ih => exact fun s h => ih _ (h.step e)
  exact this es _ WF.new
theorem step_rows {s : ChSt} {e : Dd} (h : s.ref e = none) : (s.step e).rows = s.rows ++ [showD e] := by
  have he : s.step e = s.aft e := by unfold ChSt.step; rw [h]
  rw [he]
  cases e with
  | mv t => rfl
  | vote a n => show (s.dec _).rows ++ _ = _; rw [Bnd.dec_rows]
  | drop => show (s.dec _).rows ++ _ = _; rw [Bnd.dec_rows]
  | take k =>
    cases hf : s.findA k with
    | none =>
      unfold ChSt.ref at h
      simp only at h
      split at h
      · cases h
      · rw [hf] at h; cases h
    | some x => rw [aft_take hf]; rfl
theorem step_stay {s : ChSt} {e : Dd} {r : Rf} (h : s.ref e = some r) : s.step e = s := by unfold ChSt.step; rw [h]
/-- deeds each of which is done in its turn -/
structure Led (S : Int) (es : List Dd) : Prop where
  gd : ∀ e ∈ es, gdD e
  ok : ∀ i e, es[i]? = some e → (runS S (es.take i)).ref e = none
namespace Led
variable {S : Int} {es : List Dd} {e : Dd}
theorem nil : Led S [] := ⟨(fun _ h => by cases h), (fun i e h => by simp at h)⟩
theorem snoc (h : Led S es) (he : gdD e) (hr : (runS S es).ref e = none) : Led S (es ++ [e]) := by
  refine ⟨fun x hx => ?_, fun i x hx => ?_⟩
  · rcases List.mem_append.mp hx with k | k
    · exact h.gd x k
    · rw [List.mem_singleton] at k; rw [k]; exact he
  · by_cases z : i < es.length
    · rw [List.getElem?_append_left z] at hx
      rw [List.take_append_of_le_length (by omega)]
      exact h.ok i x hx
    · have hi : i < (es ++ [e]).length := (List.getElem?_eq_some_iff.mp hx).1
      rw [List.length_append, List.length_singleton] at hi
      have : i = es.length := by omega
      subst this
      rw [List.getElem?_append_right (by omega), Nat.sub_self] at hx
      cases hx
      rw [List.take_left']
      · exact hr
      · rfl
theorem pre (h : Led S es) (n : Nat) : Led S (es.take n) := by
  refine ⟨fun x hx => h.gd x (List.mem_of_mem_take hx), fun i x hx => ?_⟩
  by_cases z : i < n
  · rw [List.getElem?_take_of_lt z] at hx
    rw [List.take_take, Nat.min_eq_left (by omega)]
    exact h.ok i x hx
  · rw [List.getElem?_take_eq_none (by omega)] at hx
    cases hx
theorem rows_take (h : Led S es) : ∀ i, i ≤ es.length → (runS S (es.take i)).rows = (es.take i).map showD
  | 0, _ => by rw [List.take_zero]; rfl
  | i + 1, hi => by
    have he : es[i]? = some es[i] := List.getElem?_eq_getElem (by omega)
    rw [run_take he, step_rows (h.ok i _ he), rows_take h i (by omega), List.take_succ_eq_append_getElem (by omega), List.map_append]
    rfl
theorem rows (h : Led S es) : (runS S es).rows = es.map showD := by
  have := h.rows_take es.length (Nat.le_refl _)
  rwa [List.take_length] at this
end Led
/-- a motion's kind stays -/
def kdsS (s : ChSt) : List Str := s.mots.map fun m => m.td.kind
theorem kds_step {s : ChSt} (wf : WF s) (e : Dd) : kdsS (s.step e) = kdsS s ++ (if ChSt.isMv e = true ∧ s.ref e = none then [e.kd] else []) := by
  have set1 : ∀ (i : Nat) (m m' : Mt), s.mots[i]? = some m → m'.td.kind = m.td.kind → (s.mots.set i m').map (fun m => m.td.kind) = s.mots.map fun m => m.td.kind := fun i m m' h k => by
    apply List.ext_getElem?
    intro j
    rw [List.getElem?_map, List.getElem?_map]
    by_cases z : i = j
    · subst z
      rw [List.getElem?_set_self (List.getElem?_eq_some_iff.mp h).1, h]
      simp [k]
    · rw [List.getElem?_set_ne z]
  unfold kdsS
  cases s.step_m wf e with
  | same h k n =>
    rw [h]
    rw [if_neg (fun z => n z.1 z.2)]
    simp
  | more t he hr h k =>
    subst he
    rw [h, List.map_append]
    rw [if_pos ⟨rfl, hr⟩]
    show _ ++ [t.mk.td.kind] = _
    rw [Mt.td_mk]
    rfl
  | laid i j x f t ch hp hi hm hj ht h k n =>
    rw [h, if_neg (fun z => by rw [n] at z; cases z.1)]
    rw [set1 i (s.mt i) _ (ChSt.mt_lt hi) (by rw [hm]; rfl)]
    simp
  | mend i x y hi hm h k n =>
    rw [h, if_neg (fun z => by rw [n] at z; cases z.1)]
    rw [set1 i (s.mt i) _ (ChSt.mt_lt hi) (by rw [hm]; rfl)]
    simp
theorem kds_len {s : ChSt} : (kdsS s).length = s.mots.length := by unfold kdsS; rw [List.length_map]
theorem kds_at {s : ChSt} {i : Nat} (h : i < s.mots.length) : (kdsS s)[i]? = some (s.mt i).td.kind := by unfold kdsS; rw [List.getElem?_map, ChSt.mt_lt h]; rfl
/-- the motions as they are told -/
def motsD (s : ChSt) : List D := (List.range s.mots.length).map fun k => (s.mt k).td.d
def motsP (s : ChSt) : List PyData := (List.range s.mots.length).map fun k => (s.mt k).td.p
theorem mots_pd {om : Om} {s : ChSt} : Pd om (.lst (motsD s)) (.list (motsP s)) := Pd.l (PdL.map (fun k => Td.pd _) _)
theorem mots_pk {s : ChSt} : pok (.list (motsP s)) := pok_of (pokn_list (all_map (fun k => Td.pk _) _))
theorem cut_init {α : Type} {a : List α} {b : α} : cut (a ++ [b]) none (some (-1)) = a := by
  unfold cut
  have e1 : HT.sIx (a ++ [b]).length 0 none = 0 := rfl
  have e2 : HT.sIx (a ++ [b]).length (a ++ [b]).length (some (-1)) = a.length := by
    show (if (-1 : Int) < 0 then ((-1 : Int) + ((a ++ [b]).length : Int)).toNat else min (-1 : Int).toNat (a ++ [b]).length) = _
    rw [if_pos (by decide), List.length_append, List.length_singleton]
    omega
  rw [e1, e2, List.drop_zero, Nat.sub_zero, List.take_left']
  rfl
section
variable {X : Cx} {R : RX} {ro : Ro} {om : Om} {a b : Expr} {es : List Expr} {pos : Pos} {Q : DK}
/-- a and .., of any effect -/
theorem e_andE (h : we X R ro om a fun d om1 => ∃ k, d = .bl k ∧ (k = false → Q (.bl false) om1) ∧ (k = true → we X R ro om1 (.BoolOp .And (b :: es) pos) Q)) : we X R ro om (.BoolOp .And (a :: b :: es) pos) Q := .mk fun om0 H0 t σ H o => by
  refine pE_of (pe_and pE_pe pE_pe) (pE_mono (h om0 H0 t σ H o) fun v H1 ⟨d, om1, ⟨k, ed, h1, h2⟩, o1, r⟩ => ?_)
  subst ed
  refine ⟨k, r, ?_⟩
  cases k with
  | true => exact (h2 rfl) om0 H0 t σ H1 o1
  | false => exact ⟨_, _, h1 rfl, o1, rfl⟩
theorem e_oneE {op : BoolOp} (h : we X R ro om a Q) : we X R ro om (.BoolOp op [a] pos) Q := .mk fun om0 H0 t σ H o => pE_of (pe_one pE_pe) (h om0 H0 t σ H o)
end
end Mo

set_option Elab.async false
set_option linter.all false
set_option maxRecDepth 100000
set_option maxHeartbeats 4000000
set_option autoImplicit false
/-! while; a chamber's core, deed by deed. -/
namespace Mo
open PySem PySem.Spec PyProof.Rows L2
section
variable {X : Cx} {F : De} {ro : Ro} {om : Om} {c : Expr} {body rest : List Stmt} {pos : Pos}
theorem w_while (I : Nat → Ro → Om → Prop) (m0 : Nat) (h0 : I m0 ro om)
    (hs : ∀ m ro' om', I m ro' om' → wt X F.ex ro' om' c fun k om1 => (k = true → ws X { F with nx := fun r o => ∃ m', m' < m ∧ I m' r o, ct := fun r o => ∃ m', m' < m ∧ I m' r o, bk := F.nx } ro' om1 body) ∧ (k = false → F.nx ro' om1))
    (hp : PassesOwn (model X.prog X.w) X.A X.env X.xe) : w1 X F ro om (.While c body [] pos) := .mk fun om0 H0 t σ H o => by
  refine pS_of (ps_whileE hp pT_pt pSs_ps pSs_ps) ?_
  refine ⟨fun m σ' H' => ∃ ro' om', I m ro' om' ∧ Ok X.K om0 H0 om' H' σ' ro', ⟨m0, ro, om, h0, o⟩, ?_⟩
  rintro m σ1 H1 ⟨ro1, om1, i1, o1⟩
  refine pT_mono (hs m ro1 om1 i1 om0 H0 t σ1 H1 o1) fun k H2 ⟨om2, ⟨h1, h2⟩, o2⟩ => ?_
  cases k with
  | true =>
    rw [if_pos rfl]
    refine ⟨fun σ' H' => ∃ ro' om', (∃ m', m' < m ∧ I m' ro' om') ∧ Ok X.K om0 H0 om' H' σ' ro', fun σ' H' ⟨ro', om', ⟨m', l, i'⟩, o'⟩ => ⟨m', l, ro', om', i', o'⟩, ?_⟩
    exact pSs_mono (h1 rfl om0 H0 t σ1 H2 o2) ⟨fun _ _ q => q, fun _ _ q => q, fun _ _ q => q, fun _ _ q => q⟩
  | false =>
    rw [if_neg Bool.false_ne_true]
    exact (ws_nil (X := X) (F := F) (h2 rfl)) om0 H0 t σ1 H2 o2
theorem st_while (I : Nat → Ro → Om → Prop) (m0 : Nat) (h0 : I m0 ro om)
    (hs : ∀ m ro' om', I m ro' om' → wt X F.ex ro' om' c fun k om1 => (k = true → ws X { F with nx := fun r o => ∃ m', m' < m ∧ I m' r o, ct := fun r o => ∃ m', m' < m ∧ I m' r o, bk := fun r o => ws X F r o rest } ro' om1 body) ∧ (k = false → ws X F ro' om1 rest))
    (hp : PassesOwn (model X.prog X.w) X.A X.env X.xe) : ws X F ro om (.While c body [] pos :: rest) :=
  ws_cons (w_while (F := { F with nx := fun ro' om' => ws X F ro' om' rest }) I m0 h0 hs hp)
end
/-- a chamber without its minutes and what is decided -/
structure Core where
  seats : Int
  sitting : Int
  closed : Bool
  mots : List Mt
  pile : List Nat
  aside : List As
def core (s : ChSt) : Core := ⟨s.seats, s.sitting, s.closed, s.mots, s.pile, s.aside⟩
def mkc (c : Core) (d : List (Nat × Str)) (r : List Str) : ChSt := ⟨c.seats, c.sitting, c.closed, c.mots, c.pile, c.aside, d, r⟩
theorem mkc_core (s : ChSt) : s = mkc (core s) s.decided s.rows := rfl
section
variable {s : ChSt} {S t : Int} {c : Bool} {ms : List Mt} {pl : List Nat} {as : List As}
theorem core_fs (h : core s = ⟨S, t, c, ms, pl, as⟩) : s.seats = S ∧ s.sitting = t ∧ s.closed = c ∧ s.mots = ms ∧ s.pile = pl ∧ s.aside = as := by
  unfold core at h
  simp only [Core.mk.injEq] at h
  exact h
theorem mt_of {i : Nat} {m : Mt} (h : ms[i]? = some m) (e : s.mots = ms) : s.mt i = m := by unfold ChSt.mt; rw [e, List.getD_eq_getElem?_getD, h]; rfl
theorem at_end {m : Mt} : (ms ++ [m])[ms.length]? = some m := by rw [List.getElem?_append_right (Nat.le_refl _), Nat.sub_self]; rfl
theorem bar0 (h : core s = ⟨S, t, false, ms, [], as⟩) : s.bar = -1 := by
  obtain ⟨_, _, h3, _, h5, _⟩ := core_fs h
  unfold ChSt.bar ChSt.on
  rw [h5, h3]
  rfl
theorem bar1 {ys : List Nat} {i : Nat} {m : Mt} (h : core s = ⟨S, t, false, ms, ys ++ [i], as⟩) (hm : ms[i]? = some m) : s.bar = m.rank := by
  obtain ⟨_, _, h3, h4, h5, _⟩ := core_fs h
  unfold ChSt.bar barOf
  rw [h3, if_neg Bool.false_ne_true]
  have : s.pile.getLast? = some i := by rw [h5, List.getLast?_concat]
  rw [topRank_some (m := m) (by unfold ChSt.on; rw [List.getLast?_map, this, Option.map_some, mt_of hm h4])]
theorem core_push (h : core s = ⟨S, t, c, ms, pl, as⟩) {x : Td} (hl : s.lack x = none) : s.ref (.mv x) = none ∧ core (s.step (.mv x)) = ⟨S, t, c, ms ++ [x.mk], pl ++ [ms.length], as⟩ := by
  have hr : s.ref (.mv x) = none := hl
  refine ⟨hr, ?_⟩
  obtain ⟨h1, h2, h3, h4, h5, h6⟩ := core_fs h
  unfold ChSt.step
  rw [hr]
  show core ((s.push x).note _) = _
  unfold core ChSt.note ChSt.push
  simp only [h1, h2, h3, h4, h5, h6]
/-- a motion that wants no matter, nothing pending -/
theorem core_mv0 (h : core s = ⟨S, t, false, ms, [], as⟩) {x : Td} (hx : x.rank = 0 ∨ x.rank = 6 ∨ x.rank = 7) : s.ref (.mv x) = none ∧ core (s.step (.mv x)) = ⟨S, t, false, ms ++ [x.mk], [ms.length], as⟩ := by
  refine core_push h ?_
  unfold ChSt.lack
  rw [bar0 h, if_neg (by omega)]
  cases x <;> simp only [Td.rank] at hx <;> first | rfl | omega
theorem ref_vote {a b : Int} {ys : List Nat} {i : Nat} (h : core s = ⟨S, t, c, ms, ys ++ [i], as⟩) (hab : a + b ≤ S) : s.ref (.vote a b) = none := by
  obtain ⟨h1, _, _, _, h5, _⟩ := core_fs h
  unfold ChSt.ref
  simp only
  rw [if_neg (by rw [h5]; simp), if_neg (by omega)]
theorem step_vote {a b : Int} {ys : List Nat} {i : Nat} {m : Mt} (h : core s = ⟨S, t, c, ms, ys ++ [i], as⟩) (hm : ms[i]? = some m) (hab : a + b ≤ S) : s.ref (.vote a b) = none ∧ s.wd a b = (if m.kept a b = true then ("kept" : Str) else "lost") ∧
    core (s.step (.vote a b)) = core ((if m.kept a b = true then (s.ended "kept").keep m else s.ended "lost").settle) := by
  have hr := ref_vote h hab
  obtain ⟨h1, h2, h3, h4, h5, h6⟩ := core_fs h
  have hw : s.wd a b = (if m.kept a b = true then ("kept" : Str) else "lost") := by
    unfold ChSt.wd ChSt.top
    rw [h5, List.getLast?_concat, Option.map_some, mt_of hm h4]
  refine ⟨hr, hw, ?_⟩
  unfold ChSt.step
  rw [hr]
  show core ((s.dec (s.wd a b)).note _) = _
  have e1 : ∀ (v : ChSt) (d : Dd), core (v.note d) = core v := fun v d => rfl
  rw [e1, dec_eq h5, hw, mt_of hm h4]
  by_cases z : m.kept a b = true
  · rw [if_pos z, if_pos z, if_pos rfl]
  · rw [if_neg z, if_neg z, if_neg (by decide)]
theorem core_ended {w : Str} {ys : List Nat} {i : Nat} (h : core s = ⟨S, t, c, ms, ys ++ [i], as⟩) : core (s.ended w) = ⟨S, t, c, ms, ys, as⟩ := by
  obtain ⟨h1, h2, h3, h4, h5, h6⟩ := core_fs h
  rw [ended_eq h5]
  unfold core
  simp only [h1, h2, h3, h4, h6]
theorem core_settle (h : core s = ⟨S, t, c, ms, pl, as⟩) : core s.settle = ⟨S, t, (if pl = [] then false else c), ms, pl, as⟩ := by
  obtain ⟨h1, h2, h3, h4, h5, h6⟩ := core_fs h
  unfold ChSt.settle
  by_cases z : pl = []
  · rw [if_pos z, if_pos (by rw [h5]; exact z)]
    unfold core
    simp only [h1, h2, h4, h5, h6]
  · rw [if_neg z, if_neg (by rw [h5]; exact z)]
    exact h
/-- a top motion that changes nothing but the sitting, voted -/
theorem core_vote0 {a b : Int} {ys : List Nat} {i : Nat} {m : Mt} (h : core s = ⟨S, t, c, ms, ys ++ [i], as⟩) (hm : ms[i]? = some m) (hab : a + b ≤ S) (hk : m.rank = 0 ∨ m.rank = 6 ∨ m.rank = 7) :
    s.ref (.vote a b) = none ∧ core (s.step (.vote a b)) = ⟨S, (if m.kept a b = true ∧ m.rank = 6 then t + 1 else t), (if ys = [] then false else c), ms, ys, as⟩ := by
  obtain ⟨hr, _, e⟩ := step_vote h hm hab
  refine ⟨hr, ?_⟩
  rw [e]
  by_cases z : m.kept a b = true
  · rw [if_pos z]
    have hk1 : core ((s.ended "kept").keep m) = ⟨S, (if m.rank = 6 then t + 1 else t), c, ms, ys, as⟩ := by
      have he := core_ended (w := "kept") h
      obtain ⟨h1, h2, h3, h4, h5, h6⟩ := core_fs he
      cases m with
      | matter f x ch => exact he
      | point x => exact he
      | rest =>
        unfold ChSt.keep core
        simp only [h1, h2, h3, h4, h5, h6]
        rfl
      | change x => simp [Mt.rank, Mt.td, Td.rank] at hk
      | mend x => simp [Mt.rank, Mt.td, Td.rank] at hk
      | putOff x => simp [Mt.rank, Mt.td, Td.rank] at hk
      | close => simp [Mt.rank, Mt.td, Td.rank] at hk
      | lay => simp [Mt.rank, Mt.td, Td.rank] at hk
    rw [core_settle hk1]
    simp only [z, true_and]
  · rw [if_neg z, core_settle (core_ended h)]
    simp only [z, false_and, if_false]
    rfl
theorem core_drop {ys : List Nat} {i : Nat} (h : core s = ⟨S, t, c, ms, ys ++ [i], as⟩) : s.ref .drop = none ∧ core (s.step .drop) = ⟨S, t, (if ys = [] then false else c), ms, ys, as⟩ := by
  obtain ⟨h1, h2, h3, h4, h5, h6⟩ := core_fs h
  have hr : s.ref .drop = none := by
    unfold ChSt.ref
    simp only
    rw [if_neg (by rw [h5]; simp)]
  refine ⟨hr, ?_⟩
  unfold ChSt.step
  rw [hr]
  show core ((s.dec "dropped").note _) = _
  have e1 : ∀ (v : ChSt) (d : Dd), core (v.note d) = core v := fun v d => rfl
  rw [e1, dec_eq h5, if_neg (by decide)]
  exact core_settle (core_ended h)
theorem mat1 {i : Nat} {r : List Nat} {f x : List Str} {ch : List Ed} (h : core s = ⟨S, t, c, ms, i :: r, as⟩) (hm : ms[i]? = some (.matter f x ch)) : s.mat = some i ∧ s.mt i = .matter f x ch := by
  obtain ⟨h1, h2, h3, h4, h5, h6⟩ := core_fs h
  have e := mt_of hm h4
  refine ⟨?_, e⟩
  unfold ChSt.mat
  rw [h5, List.find?_cons, e]
  rfl
/-- a change of the matter pending alone -/
theorem core_change {i : Nat} {f x : List Str} {ch : List Ed} {e : Ed} (h : core s = ⟨S, t, false, ms, [i], as⟩) (hm : ms[i]? = some (.matter f x ch)) (hf : Ed.fits x.length e = true) :
    s.ref (.mv (.change e)) = none ∧ core (s.step (.mv (.change e))) = ⟨S, t, false, ms ++ [.change e], [i, ms.length], as⟩ := by
  refine core_push h ?_
  obtain ⟨a1, a2⟩ := mat1 h hm
  have b1 := bar1 (ys := []) h hm
  unfold ChSt.lack ChSt.check
  rw [b1, if_neg (by simp [Mt.rank, Mt.td, Td.rank]), a1]
  simp only
  rw [a2, if_pos (show Ed.fits (Mt.text (.matter f x ch)).length e = true from hf)]
/-- a kept change -/
theorem core_laid {a b : Int} {i k : Nat} {f x : List Str} {ch : List Ed} {e : Ed} (h : core s = ⟨S, t, false, ms, [i, k], as⟩) (hm : ms[i]? = some (.matter f x ch)) (hk : ms[k]? = some (.change e)) (hab : a + b ≤ S) (hke : b < a) :
    s.ref (.vote a b) = none ∧ core (s.step (.vote a b)) = ⟨S, t, false, ms.set i (.matter f (Ed.laid x e) (ch ++ [e])), [i], as⟩ := by
  obtain ⟨hr, _, e1⟩ := step_vote (ys := [i]) (i := k) h hk hab
  refine ⟨hr, ?_⟩
  have hkept : (Mt.change e).kept a b = true := by
    show (decide (b < a) && (decide ((Mt.change e).need = "more") || _)) = true
    rw [decide_eq_true hke, decide_eq_true (show (Mt.change e).need = "more" from rfl)]
    rfl
  rw [e1, if_pos hkept]
  have he := core_ended (w := "kept") (ys := [i]) (i := k) h
  obtain ⟨a1, a2⟩ := mat1 he hm
  obtain ⟨h1, h2, h3, h4, h5, h6⟩ := core_fs he
  have hk1 : core ((s.ended "kept").keep (.change e)) = ⟨S, t, false, ms.set i (.matter f (Ed.laid x e) (ch ++ [e])), [i], as⟩ := by
    unfold ChSt.keep
    simp only
    rw [a1]
    simp only
    rw [a2]
    unfold ChSt.setM core Mt.laidBy
    simp only [h1, h2, h3, h4, h5, h6]
  rw [core_settle hk1]
  rfl
/-- a mend put at the first place of a change -/
theorem core_mend {i k : Nat} {f x : List Str} {ch : List Ed} {e y : Ed} (h : core s = ⟨S, t, false, ms, [i, k], as⟩) (hm : ms[i]? = some (.matter f x ch)) (hk : ms[k]? = some (.change e)) (he : (Mt.change e).ed = some e) (hf : Ed.fits (wordsC e.th).length y = true) :
    s.ref (.mv (.mend y)) = none ∧ core (s.step (.mv (.mend y))) = ⟨S, t, false, ms ++ [.mend y], [i, k, ms.length], as⟩ := by
  refine core_push h ?_
  obtain ⟨h1, h2, h3, h4, h5, h6⟩ := core_fs h
  obtain ⟨a1, a2⟩ := mat1 h hm
  have b1 := bar1 (ys := [i]) (i := k) h hk
  have ht : s.topE = some e := by
    unfold ChSt.topE ChSt.top
    rw [h5]
    show (Option.map s.mt (some k)).bind Mt.ed = _
    rw [Option.map_some, mt_of hk h4, Option.bind_some, he]
  unfold ChSt.lack ChSt.check
  rw [b1, if_neg (by simp [Mt.rank, Mt.td, Td.rank]), a1]
  simp only
  rw [ht]
  simp only
  rw [if_pos hf]
/-- put off or laid aside, kept -/
theorem core_away {i : Nat} {r : List Nat} {k : Nat} {m : Mt} {u : Int} (h : core s = ⟨S, t, false, ms, (i :: r) ++ [k], as⟩) (hk : ms[k]? = some m) (hm : m = .putOff u ∨ m = .lay ∧ u = t) (h1S : 1 ≤ S) :
    s.ref (.vote 1 0) = none ∧ core (s.step (.vote 1 0)) = ⟨S, t, false, ms, [], as ++ [(i, u, i :: r)]⟩ := by
  obtain ⟨hr, _, e1⟩ := step_vote (a := 1) (b := 0) h hk (by omega)
  refine ⟨hr, ?_⟩
  have hkept : m.kept 1 0 = true := by rcases hm with rfl | ⟨rfl, _⟩ <;> rfl
  rw [e1, if_pos hkept]
  have he := core_ended (w := "kept") h
  obtain ⟨h1, h2, h3, h4, h5, h6⟩ := core_fs he
  have hk1 : core ((s.ended "kept").keep m) = ⟨S, t, false, ms, [], as ++ [(i, u, i :: r)]⟩ := by
    rcases hm with rfl | ⟨rfl, rfl⟩
    · unfold ChSt.keep ChSt.setAside
      simp only
      rw [h5]
      unfold core
      simp only [h1, h2, h3, h4, h6]
    · unfold ChSt.keep ChSt.setAside
      simp only
      rw [h5]
      unfold core
      simp only [h1, h2, h3, h4, h6]
  rw [core_settle hk1]
  rfl
theorem core_mvA {ys : List Nat} {i j : Nat} {f x : List Str} {ch : List Ed} {m : Mt} {td : Td} (h : core s = ⟨S, t, false, ms, ys ++ [j], as⟩) (hp : ys ++ [j] = i :: ys.tail ++ [j] ∨ ys = [] ∧ j = i) (hm : ms[i]? = some (.matter f x ch)) (hj : ms[j]? = some m) (hr : m.rank ≤ 2)
    (hd : (∃ u, td = .putOff u ∧ t < u) ∨ td = .lay) : s.ref (.mv td) = none ∧ core (s.step (.mv td)) = ⟨S, t, false, ms ++ [td.mk], ys ++ [j] ++ [ms.length], as⟩ := by
  refine core_push h ?_
  obtain ⟨h1, h2, h3, h4, h5, h6⟩ := core_fs h
  have b1 := bar1 h hj
  have hmat : s.mat = some i := by
    rcases hp with hp | ⟨rfl, rfl⟩
    · rw [hp] at h
      exact (mat1 h hm).1
    · exact (mat1 h hm).1
  unfold ChSt.lack ChSt.check
  rw [b1, hmat]
  rcases hd with ⟨u, rfl, hu⟩ | rfl
  · simp only
    rw [if_neg (by show ¬ (3 : Int) ≤ _; omega), h2, if_neg (by omega)]
  · simp only
    rw [if_neg (by show ¬ (5 : Int) ≤ _; omega)]
theorem ref_bar {ys : List Nat} {i : Nat} {m : Mt} {k : Int} (h : core s = ⟨S, t, false, ms, ys ++ [i], as⟩) (hm : ms[i]? = some m) : s.ref (.take k) = some (.bar m.rank) := by
  obtain ⟨h1, h2, h3, h4, h5, h6⟩ := core_fs h
  unfold ChSt.ref
  simp only
  rw [if_pos (by rw [h5]; simp), bar1 h hm]
theorem ref_take {i : Nat} {u : Int} {p : List Nat} (h : core s = ⟨S, t, c, ms, [], [(i, u, p)]⟩) : s.ref (.take ((i : Int) + 1)) = (if t < u then some (.notYet u) else none) ∧ (¬ t < u → core (s.step (.take ((i : Int) + 1))) = ⟨S, t, c, ms, p, []⟩) := by
  obtain ⟨h1, h2, h3, h4, h5, h6⟩ := core_fs h
  have hf : s.findA ((i : Int) + 1) = some (i, u, p) := by
    unfold ChSt.findA
    rw [h6, List.find?_cons, decide_eq_true rfl]
  have hr : s.ref (.take ((i : Int) + 1)) = (if t < u then some (.notYet u) else none) := by
    unfold ChSt.ref
    simp only
    rw [if_neg (by rw [h5]; simp), hf]
    simp only
    rw [h2]
  refine ⟨hr, fun z => ?_⟩
  rw [if_neg z] at hr
  unfold ChSt.step
  rw [hr]
  show core (s.aft _) = _
  rw [aft_take hf]
  have e1 : ∀ (v : ChSt) (d : Dd), core (v.note d) = core v := fun v d => rfl
  rw [e1]
  unfold ChSt.unside core
  simp only [h1, h2, h3, h4, h6, List.filter_cons, List.filter_nil]
  simp
theorem ref_none {k : Int} (h : core s = ⟨S, t, c, ms, [], []⟩) : s.ref (.take k) = some .noAside := by
  obtain ⟨h1, h2, h3, h4, h5, h6⟩ := core_fs h
  unfold ChSt.ref
  simp only
  rw [if_neg (by rw [h5]; simp)]
  unfold ChSt.findA
  rw [h6]
  rfl
end
end Mo

set_option Elab.async false
set_option linter.all false
set_option maxRecDepth 100000
set_option maxHeartbeats 4000000
set_option autoImplicit false
/-! [e for x in xs if c]. -/
namespace Mo
open PySem PySem.Spec PyProof.Rows L2
def keepL (zk : List (D × Bool)) : List D := (zk.filter (·.2)).map (·.1)
theorem keepL_len (zk : List (D × Bool)) : (keepL zk).length ≤ zk.length := by unfold keepL; rw [List.length_map]; exact List.length_filter_le _ _
theorem keepL_snoc {zk : List (D × Bool)} {z : D} {k : Bool} : keepL (zk ++ [(z, k)]) = keepL zk ++ (if k = true then [z] else []) := by
  unfold keepL
  rw [List.filter_append, List.map_append]
  cases k <;> rfl
section
variable {X : Cx} {R : RX} {ro : Ro} {om : Om} {elt c iter : Expr} {scope : Scope} {pos p : Pos} {xn : Str}
theorem n_lcF {ds : List D} {zk : List (D × Bool)} {Pm : Om → Prop} (i0 : Nat) {N : List Str} {sc : Scope} (hN : X.N = N) (hsc : X.env.scope = sc) (nd : X.N.Nodup) (hc : X.calm = true) (hb : blkB N sc scope [(xn, i0)] = true) (hl0 : (scope.names.lookup xn == some .local) = true)
    (hi : Itd X ro om (.Name xn p) iter ds Pm) (hP : ∀ om', Ext om om' → Pm om') (hl : zk.length = ds.length) (hz : ds.length ≤ 100000)
    (ht : ∀ (j : Nat) (d : D) (zk' : D × Bool), ds[j]? = some d → zk[j]? = some zk' → ∀ (s : Shared) (H : Hp) (C : Addr) (cl : List (Str × Addr)) (fp : List Addr) (om' : Om), Ext om om' → wtv (X.blk s H scope (compEnvC scope cl C X.env) fp) ((ro.set i0 none).set i0 (some d)) om' c zk'.2)
    (he : ∀ (j : Nat) (d : D) (zk' : D × Bool), ds[j]? = some d → zk[j]? = some zk' → We X ((ro.set i0 none).set i0 (some d)) om scope elt zk'.1) (hs : ∀ x, foldedSetIterable iter X.env x = pure x := by intro _; rfl) : wn X ro om (.ListComp elt [⟨.Name xn p, iter, [c], 0⟩] scope pos) (keepL zk) := .mk fun R Q q => .mk fun om0 H0 t σ H o => by
  have ok : BlkOk X.N X.env.scope scope [(xn, i0)] := blk_ok hN hsc hb
  refine pE_of (pe_lc (tt := fun σ2 H2 Q2 => ∀ s H C cl fp, pT (X.blk s H scope (compEnvC scope cl C X.env) fp) c σ2 H2 Q2) (te := fun σ2 H2 Q2 => ∀ s H C cl fp, pE (X.blk s H scope (compEnvC scope cl C X.env) fp) elt σ2 H2 Q2) hc nd pI_pi ok (lc_hg nd (ok.ix (xn, i0) List.mem_cons_self) hl0) (fun s H C cl fp => pts_one ⟨fun pins s' σ' H' Q' I h => h s H C cl fp pins s' I⟩) (fun s H C cl fp => ⟨fun pins s' σ' H' Q' I h => h s H C cl fp pins s' I⟩) hs) ?_
  refine fun pins s I => wpAny_mono (hi R om0 H0 t σ H o pins s I) (fun v s1 h1 => thn h1 fun itv s2 ⟨it, fp, tn, J, H2, e2, I2, T2, st2, f2, o2, j2⟩ => ?_) (fun _ _ x => x)
  refine ⟨it, fp, tn, J, H2, e2, I2, T2, st2, f2, fun Dl hD => ?_⟩
  have hDo : om Dl = none := o2.store.fresh hD
  refine ⟨fun i m H' => m = ds.length - i ∧ i ≤ ds.length ∧ Ok X.K om0 H0 (ups om Dl (.lst (keepL (zk.take i)))) H' σ ro ∧ Stable om H2 (ups om Dl (.lst (keepL (zk.take i)))) H', ⟨ds.length, by simp, Nat.zero_le _, o2.newl hD rfl, Stable.mk hD⟩, ?_⟩
  rintro i m H3 ⟨rfl, hle, o3, s3⟩
  obtain ⟨xsD, hxD, rD⟩ := o3.store Dl _ ups_same
  have j3 := j2 (ups om Dl (.lst (keepL (zk.take i)))) H3 o3.store s3 (hP _ (Ext.ups hDo))
  by_cases hlt : i < ds.length
  · have hlt2 : i < zk.length := by omega
    refine .inr ⟨(j3.1 i ds[i] (List.getElem?_eq_getElem hlt)).1, fun H' => Ok X.K om0 H0 (ups om Dl (.lst (keepL (zk.take (i + 1))))) H' σ ro ∧ Stable om H2 (ups om Dl (.lst (keepL (zk.take (i + 1))))) H', fun H' ⟨q1, q2⟩ => ⟨ds.length - (i + 1), by omega, rfl, hlt, q1, q2⟩, fun x' H4 y4 => ?_⟩
    obtain ⟨S4, s4, r4⟩ := (j3.1 i ds[i] (List.getElem?_eq_getElem hlt)).2 x' H4 y4
    have o4 := o3.to S4 s4
    have ht1 : zk.take (i + 1) = zk.take i ++ [zk[i]] := by rw [List.take_succ_eq_append_getElem hlt2]
    refine lc_hU (i := i0) (xn := xn) σ x' H4 _ ((tg_name (X := X) (tg := .Name xn p) i0) om0 H0 _ H4 (L2.wipe σ ([(xn, i0)].map (·.2))) (wipeD ro ([(xn, i0)].map (·.2))) x' _ (o4.wipe _) r4 fun σ5 o5 => ?_)
    intro s' H' C cl fp'
    have wt5 := ht i ds[i] zk[i] (List.getElem?_eq_getElem hlt) (List.getElem?_eq_getElem hlt2) s' H' C cl fp' (ups om Dl (.lst (keepL (zk.take i)))) (Ext.ups hDo)
    refine tv_run (R := fun _ _ _ _ => False) wt5 Tk.no (om0 := ups om Dl (.lst (keepL (zk.take i)))) (H0 := H4) ⟨o5.store, Stable.refl, o5.slot, o5.len⟩ fun H5 o55 => ?_
    cases hk : zk[i].2 with
    | false =>
      rw [if_neg Bool.false_ne_true]
      have e0 : keepL (zk.take (i + 1)) = keepL (zk.take i) := by
        rw [ht1, show zk[i] = (zk[i].1, zk[i].2) from rfl, keepL_snoc, hk, if_neg Bool.false_ne_true, List.append_nil]
      rw [e0]
      have o4' : Ok X.K om0 H0 (ups om Dl (.lst (keepL (zk.take i)))) H4 σ ro := o4
      exact ⟨o4'.to o55.store o55.stab, (s3.trans s4).trans o55.stab⟩
    | true =>
      rw [if_pos rfl]
      intro s'' H'' C2 cl2 fp2
      have we5 := he i ds[i] zk[i] (List.getElem?_eq_getElem hlt) (List.getElem?_eq_getElem hlt2) s'' H'' C2 cl2 fp2 (ups om Dl (.lst (keepL (zk.take i)))) (Ext.ups hDo) (fun _ _ _ _ => False) (fun d om' => d = zk[i].1 ∧ om' = ups om Dl (.lst (keepL (zk.take i)))) ⟨rfl, rfl⟩
      refine pE_mono (we5 (ups om Dl (.lst (keepL (zk.take i)))) H5 Tk.no σ5 H5 ⟨o55.store, Stable.refl, o55.slot, o55.len⟩) fun v6 H6 ⟨d6, om6, ⟨e1, e2⟩, o6, r6⟩ => ?_
      subst e1 e2
      obtain ⟨xs6, hx6, rD6⟩ := o6.store Dl _ ups_same
      have ht : keepL (zk.take (i + 1)) = keepL (zk.take i) ++ [zk[i].1] := by
        rw [ht1, show zk[i] = (zk[i].1, zk[i].2) from rfl, keepL_snoc, hk, if_pos rfl]
      have e6 : ups (ups om Dl (.lst (keepL (zk.take i)))) Dl (.lst (keepL (zk.take (i + 1)))) = ups om Dl (.lst (keepL (zk.take (i + 1)))) := ups_ups
      have St6 : Stable (ups om Dl (.lst (keepL (zk.take i)))) H6 (ups om Dl (.lst (keepL (zk.take (i + 1))))) (upd H6 Dl (.lst (xs6 ++ [v6]))) := by rw [← e6]; exact Stable.put ups_same
      have So6 : StoreOk X.K (ups om Dl (.lst (keepL (zk.take (i + 1))))) (upd H6 Dl (.lst (xs6 ++ [v6]))) := by
        rw [← e6]
        refine o6.store.put ups_same ⟨_, upd_same, ?_⟩
        have q6 : RepL X.K (ups om Dl (.lst (keepL (zk.take i)))) H6 (keepL (zk.take (i + 1))) (xs6 ++ [v6]) := by
          rw [ht]
          exact rD6.app (RepL.one r6)
        exact q6.mono (Stable.put ups_same)
      have o4' : Ok X.K om0 H0 (ups om Dl (.lst (keepL (zk.take i)))) H4 σ ro := o4
      refine ⟨xs6, hx6, ?_, ((o4'.to o55.store o55.stab).to o6.store o6.stab).to So6 St6, (((s3.trans s4).trans o55.stab).trans o6.stab).trans St6⟩
      rw [← rD6.length]
      have h1 := keepL_len (zk.take i)
      have h2 : (zk.take i).length ≤ i := by rw [List.length_take]; omega
      have : sizeLine = 16777216 := sizeLine_eq
      omega
  · have ei : i = ds.length := by omega
    subst ei
    refine .inl ⟨j3.2, ?_⟩
    have ht : zk.take ds.length = zk := List.take_of_length_le (by omega)
    rw [ht] at o3
    exact ⟨_, _, q Dl hDo, o3, rfl⟩
end
end Mo

set_option Elab.async false
set_option linter.all false
set_option maxRecDepth 100000
set_option maxHeartbeats 4000000
set_option autoImplicit true
namespace Law
open PySem L2 Mo
local macro_rules | `(tactic| exact "ro") => `(tactic| try (conv => arg 3; simp only [List.set, List.set_cons_succ, List.set_cons_zero]))
local macro_rules | `(tactic| exact "st") => `(tactic| ((conv => arg 5; whnf); (conv => arg 3; simp only [startD, List.map_cons, List.map_nil, List.length_cons, List.length_nil, List.cons_append, List.nil_append, Nat.reduceAdd, Nat.reduceSub, List.reduceReplicate])))
local macro_rules | `(tactic| exact "sd") => `(tactic| first | exact nomark _ | rfl | (intro _; rfl) | (intro _ _; rfl) | decide)
local macro_rules | `(tactic| exact "nm") => `(tactic| ((with_reducible apply NameAt.v); first | ((with_reducible assumption); rfl) | (((with_reducible apply blk_name); (first | exact NameAt.at_ (by assumption) | assumption); decide +kernel); rfl)))
local macro_rules | `(tactic| exact "ar") => `(tactic| first | omega | decide | assumption | (simp [sizeLine_eq]; done) | (simp [sizeLine_eq]; omega))
local macro_rules | `(tactic| exact "op") => `(tactic| first
  | with_reducible exact o_add | with_reducible exact o_sub | ((with_reducible apply o_mul); first | (left; constructor <;> omega) | (right; constructor <;> omega)) | ((with_reducible apply o_div); exact ⟨by omega, by omega⟩) | ((with_reducible apply o_mod); first | omega | decide) | ((with_reducible apply o_pow); exact ⟨by decide, by decide, by decide⟩)
  | ((with_reducible apply o_addS); (focus exact "ar")))
local macro_rules | `(tactic| exact "cm") => `(tactic| first
  | with_reducible exact c_eqS | with_reducible exact c_neS | with_reducible exact c_lt | with_reducible exact c_le | with_reducible exact c_gt | with_reducible exact c_ge | with_reducible exact c_eqI | with_reducible exact c_neI | with_reducible exact c_eqB | with_reducible exact c_neB | with_reducible exact c_is | with_reducible exact c_isnot)
local macro_rules | `(tactic| exact "gl") => `(tactic| first | exact gl_of (by assumption) (by decide +kernel) | exact blk_gl (by decide +kernel) | rfl)
local macro_rules | `(tactic| exact "av") => `(tactic| first | with_reducible exact av_nil | ((with_reducible apply av_cons); (focus exact "v"); (focus exact "av"); (focus exact "sd")))
local macro_rules | `(tactic| exact "bi") => `(tactic| first
  | with_reducible exact Blt.bLen (by assumption) | with_reducible exact Blt.bMax (by assumption) | with_reducible exact Blt.bMin (by assumption) | with_reducible exact Blt.bInt (by assumption) | with_reducible exact Blt.bStr (by assumption) | with_reducible exact Blt.bList (by assumption) | with_reducible exact Blt.bAny (by assumption) | with_reducible exact Blt.bAll (by assumption) | with_reducible exact Blt.bSum (by assumption) | with_reducible exact Blt.bIsi (by assumption))
local macro_rules | `(tactic| exact "lr") => `(tactic| first | with_reducible assumption | with_reducible exact Lr.im | ((with_reducible apply Lr.ob); first | assumption | exact ups_same))
local macro_rules | `(tactic| exact "cv") => `(tactic| first
  | with_reducible exact b_lenC | with_reducible exact b_lenT | with_reducible exact b_max (by assumption) | with_reducible exact b_min (by assumption) | with_reducible exact b_intB | ((with_reducible apply b_lenS); (focus exact "ar")) | ((with_reducible apply b_lenL); (focus exact "lr")) | ((with_reducible apply b_str); (focus exact "ar")) | ((with_reducible apply b_any); (focus exact "lr"); assumption) | ((with_reducible apply b_all); (focus exact "lr"); assumption) | ((with_reducible apply b_sum); (focus exact "lr"); assumption))
local macro_rules | `(tactic| exact "ix") => `(tactic| first | ((with_reducible apply ix_T); (focus exact "at")) | ((with_reducible apply ix_scr); (focus exact "at")) | ((with_reducible apply ix_L); (focus exact "lr"); (focus exact "at")) | ((with_reducible apply ix_S); (focus exact "ar"); (focus exact "at")))
local macro_rules | `(tactic| exact "at") => `(tactic| first | with_reducible exact at_0 | with_reducible exact at_1 | with_reducible exact at_2 | (with_reducible assumption) | rfl)
local macro_rules | `(tactic| exact "kl") => `(tactic| first | with_reducible exact Blt.kBool (by assumption) | with_reducible exact Blt.kInt (by assumption) | with_reducible exact Blt.kStr (by assumption) | with_reducible exact Blt.kList (by assumption) | with_reducible exact Blt.kTuple (by assumption) | ((with_reducible apply Kl.own); assumption; decide))
local macro_rules | `(tactic| exact "ty") => `(tactic| first | with_reducible exact Ty.non | with_reducible exact Ty.bl | with_reducible exact Ty.int | with_reducible exact Ty.str | with_reducible exact Ty.tup | ((with_reducible apply Ty.lst); (focus exact "lr")))
local macro_rules | `(tactic| exact "kt") => `(tactic| first | exact kit_ty (r := true) (by decide +kernel) | exact kit_ty (r := false) (by decide +kernel) | assumption)
local macro_rules | `(tactic| exact "v") => `(tactic| first
  | (with_reducible exact v_int) | (with_reducible exact v_str) | (with_reducible exact v_bl) | (with_reducible exact v_non) | exact "nm"
  | ((with_reducible apply v_ix); (focus exact "v"); (focus exact "v"); (focus exact "ix"); exact un_1 (by assumption); (focus exact "sd"))
  | ((with_reducible apply v_isi); (focus exact "v"); (focus exact "ty"); (focus exact "kl"); (focus exact "kt"); (focus exact "bi"); (focus exact "gl"); (focus exact "gl"); (focus exact "sd"); (focus exact "sd"); (focus exact "sd"))
  | exact "call"
  | ((with_reducible apply v_bi); (focus exact "av"); (focus exact "bi"); (focus exact "cv"); (focus exact "gl"); (focus exact "sd"); (focus exact "sd"))
  | ((with_reducible apply v_op); (focus exact "v"); (focus exact "v"); (focus exact "op"))
  | ((with_reducible apply v_cmp); (focus exact "v"); (focus exact "v"); (focus exact "cm"); (focus exact "sd"))
  | ((with_reducible apply v_tup); (focus exact "av"); (focus exact "ar"))
  | ((with_reducible apply v_lst); (focus exact "av"); (focus exact "ar"))
  | ((with_reducible apply v_neg); (focus exact "v")) | ((with_reducible apply v_not); (focus exact "v"))
  | ((with_reducible apply v_chain); (focus exact "v"); (focus exact "v"); (focus exact "cm"); intro _; (focus exact "v"); intro _; (focus exact "cm"); (focus exact "sd"))
  | ((with_reducible apply v_or); (focus exact "v"); intro _; (focus exact "v")) | ((with_reducible apply v_and); (focus exact "v"); intro _; (focus exact "v")) | ((with_reducible apply v_bool1); (focus exact "v")))
local macro_rules | `(tactic| exact "wb") => `(tactic| first
  | ((with_reducible apply b_and); (focus exact "t"); intro _; (focus exact "wb")) | ((with_reducible apply b_or); (focus exact "t"); intro _; (focus exact "wb")) | ((with_reducible apply b_and1); (focus exact "t")) | ((with_reducible apply b_or1); (focus exact "t")))
local macro_rules | `(tactic| exact "t") => `(tactic| first
  | ((with_reducible apply tv_cmp); (focus exact "v"); (focus exact "v"); (focus exact "cm"); (focus exact "sd"))
  | ((with_reducible apply tv_not); (focus exact "t"))
  | ((with_reducible apply tv_bool); (focus exact "wb"))
  | ((with_reducible apply tv_chain); (focus exact "v"); (focus exact "v"); (focus exact "cm"); intro _; (focus exact "v"); intro _; (focus exact "cm"); (focus exact "sd"))
  | ((with_reducible apply tv_val); (focus exact "v"); (focus exact "sd")))
local macro_rules | `(tactic| exact "asg") => `(tactic| ((with_reducible apply Lo.set); (focus (with_reducible assumption)); (focus assumption); (focus exact "v"); (case hs => exact "sd"); exact "ro"))
local macro_rules | `(tactic| exact "call") => `(tactic| ((with_reducible apply v_call); (with_reducible assumption); (exact Room.mono (by assumption) (by decide)); (focus exact "av"); rfl; (focus exact "pu"); (focus exact "gl"); decide; (focus exact "sd"); (focus exact "sd")))
local macro_rules | `(tactic| exact "ifI") => `(tactic| ((with_reducible apply Lo.ifI); (with_reducible assumption); assumption; (focus exact "t"); intro _; (focus exact "v"); rfl; (case hs => exact "sd"); exact "ro"))
local macro_rules | `(tactic| exact "po") => `(tactic| first | with_reducible exact po_no | ((with_reducible apply po_at); (focus exact "v")))
local macro_rules | `(tactic| exact "sl") => `(tactic| first | with_reducible exact s_scr | ((with_reducible apply s_L); (focus exact "lr")) | ((with_reducible apply s_S); (focus exact "ar")) | ((with_reducible apply s_T); decide))
local macro_rules | `(tactic| exact "sln") => `(tactic| first | with_reducible exact sn_scr | ((with_reducible apply sn_L); (focus exact "lr")))
local macro_rules | `(tactic| exact "n") => `(tactic| first
  | ((with_reducible apply n_lst); (focus exact "av"); (focus exact "ar"))
  | ((with_reducible apply n_sl); (focus exact "v"); (focus exact "po"); (focus exact "po"); (focus exact "sln"))
  | ((with_reducible apply n_bi); (focus exact "av"); (focus exact "bi"); (focus exact "cn"); (focus exact "gl"); (focus exact "sd"); (focus exact "sd"))
  | ((with_reducible apply n_add); (focus exact "v"); (focus exact "v"); (focus exact "lr"); (focus exact "lr"); (focus exact "ar"))
  | ((with_reducible apply n_call); (with_reducible assumption); (exact Room.mono (by assumption) (by decide)); (focus exact "av"); rfl; (focus exact "pn"); (focus exact "gl"); decide; (focus exact "sd"); (focus exact "sd"))
  | ((with_reducible apply n_split); (focus exact "v"); (focus exact "v"); decide +kernel; (focus exact "ar"); (focus exact "sd"); (focus exact "sd"); (focus exact "sd"); (focus exact "sd"); (focus exact "sd")))
local macro_rules | `(tactic| exact "cn") => `(tactic| first | ((with_reducible apply b_listL); (focus exact "lr")))
local macro_rules | `(tactic| exact "new") => `(tactic| ((with_reducible apply Lo.new); (with_reducible assumption); assumption; (focus exact "n"); (case hs => exact "sd"); (intro _ _; exact "ro")))
local macro_rules | `(tactic| exact "v") => `(tactic| first
  | ((with_reducible apply v_sl); (focus exact "v"); (focus exact "po"); (focus exact "po"); (focus exact "sl"))
  | ((with_reducible apply v_joinS); (focus exact "v"); (focus exact "lr"); (focus exact "ar"); (focus exact "sd"); (focus exact "sd"); (focus exact "sd"))
  | ((with_reducible apply v_join); (focus exact "v"); (focus exact "v"); (focus exact "lr"); (focus exact "ar"); (focus exact "sd"); (focus exact "sd"); (focus exact "sd"); (focus exact "sd"); (focus exact "sd"))
  | ((with_reducible apply wn.v); (focus exact "n")))
local macro_rules | `(tactic| exact "pdl") => `(tactic| first | with_reducible exact PdL.nil | with_reducible exact PdL.strs _ | with_reducible exact PdL.ints _ | ((with_reducible apply PdL.cons); (focus exact "pd"); (focus exact "pdl")) | ((with_reducible apply PdL.app); (focus exact "pdl"); (focus exact "pdl")) | exact "pdx")
local macro_rules | `(tactic| exact "pd") => `(tactic| first | with_reducible exact Pd.non | with_reducible exact Pd.bl _ | with_reducible exact Pd.int _ | with_reducible exact Pd.str _ | ((with_reducible apply Pd.l); (focus exact "pdl")) | ((with_reducible apply Pd.t); (focus exact "pdl")) | ((with_reducible apply Pd.o); (first | assumption | exact ups_same); (focus exact "pdl")))
local macro_rules | `(tactic| exact "pka") => `(tactic| first | with_reducible exact all_nil | ((with_reducible apply all_cons); (focus exact "pk"); (focus exact "pka")) | ((with_reducible apply all_app); (focus exact "pka"); (focus exact "pka")) | ((with_reducible apply all_map); intro _; (focus exact "pk")))
local macro_rules | `(tactic| exact "pk") => `(tactic| first | with_reducible exact pokn_none | with_reducible exact pokn_bool | with_reducible exact pokn_int | with_reducible exact pokn_str | (apply pokn_list; (focus exact "pka")) | (apply pokn_tuple; (focus exact "pka")))
local macro_rules | `(tactic| exact "cm") => `(tactic| first
  | ((with_reducible apply c_eqD); exact un_64 (by assumption); (focus exact "pd"); (focus exact "pd"); (first | (with_reducible assumption) | exact pok_of (by exact "pk")); (first | (with_reducible assumption) | exact pok_of (by exact "pk")))
  | ((with_reducible apply c_neD); exact un_64 (by assumption); (focus exact "pd"); (focus exact "pd"); (first | (with_reducible assumption) | exact pok_of (by exact "pk")); (first | (with_reducible assumption) | exact pok_of (by exact "pk")))
  | ((with_reducible apply c_in); exact un_65 (by assumption); (focus exact "pd"); (focus exact "pds"); (first | (with_reducible assumption) | exact pok_of (by exact "pk")); (first | (with_reducible assumption) | exact pok_of (by exact "pk")))
  | ((with_reducible apply c_notIn); exact un_65 (by assumption); (focus exact "pd"); (focus exact "pds"); (first | (with_reducible assumption) | exact pok_of (by exact "pk")); (first | (with_reducible assumption) | exact pok_of (by exact "pk"))))
local macro_rules | `(tactic| exact "cm") => `(tactic| first
  | with_reducible exact c_eqS | with_reducible exact c_neS | with_reducible exact c_lt | with_reducible exact c_le | with_reducible exact c_gt | with_reducible exact c_ge | with_reducible exact c_eqI | with_reducible exact c_neI | with_reducible exact c_eqB | with_reducible exact c_neB | with_reducible exact c_is | with_reducible exact c_isnot)
local macro_rules | `(tactic| exact "pds") => `(tactic| first | (left; (focus exact "pd"); done) | (right; (focus exact "pd"); done))
local macro_rules | `(tactic| exact "fo") => `(tactic| ((case hp => assumption); (case hc => assumption); (case hg => exact Lo.pg (by assumption) (by assumption)); (case hT => exact fun d _ => tg_name _)))
local macro_rules | `(tactic| exact "app") => `(tactic| ((with_reducible apply st_append); (focus exact "v"); (focus exact "v"); (first | assumption | exact ups_same); (focus exact "ar"); (case hbase => exact "sd"); (case hfew => exact "sd"); (case hline => exact "sd"); (case hs => exact "sd"); (case hplain => exact "sd"); (case hsw => exact "sd"); try simp only [ups_ups]))
local macro_rules | `(tactic| exact "ix") => `(tactic| first | with_reducible exact Ed.ix0 | with_reducible exact Ed.ix1)
local macro_rules | `(tactic| exact "ty") => `(tactic| with_reducible exact Ed.ty)
local macro_rules | `(tactic| exact "pd") => `(tactic| with_reducible exact Ed.pd _)
local macro_rules | `(tactic| exact "pk") => `(tactic| with_reducible exact Ed.pk _)
local macro_rules | `(tactic| exact "ix") => `(tactic| with_reducible assumption)
local macro_rules | `(tactic| exact "ty") => `(tactic| with_reducible assumption)
local macro_rules | `(tactic| exact "pd") => `(tactic| with_reducible assumption)
/-! ### behind the head -/
section
variable {P : Program} {w : World} {K : PySem.W.Frag} {mg : Str → Option Value} {base : Heap} {f : Addr} {fd : FuncData}
theorem ok_Motion_need (B : Blt mg) (F : Df K d_Motion_need f fd) : FnOk P w K mg base (L2.CX P w) 1 f fd ["self"] (spD K 1 (G_const (.str "more"))) := by
  refine def_ok' F sc_Motion_need rfl N_Motion_need rfl (by decide +kernel) ?_
  rintro X rfl rfl rfl rfl rfl ⟨nN, nd, sc, calm, fn, room, un, pass, stk, frm, exs⟩ ⟨⟨_, _⟩, _⟩ om ds Q Rr hl ⟨x, rfl, q⟩
  exact "st"
  exact ret_v (by exact "v") q
theorem ok_Matter_kind (B : Blt mg) (F : Df K d_Matter_kind f fd) : FnOk P w K mg base (L2.CX P w) 1 f fd ["self"] (spD K 1 (G_const (.str "matter"))) := by
  refine def_ok' F sc_Matter_kind rfl N_Matter_kind rfl (by decide +kernel) ?_
  rintro X rfl rfl rfl rfl rfl ⟨nN, nd, sc, calm, fn, room, un, pass, stk, frm, exs⟩ ⟨⟨_, _⟩, _⟩ om ds Q Rr hl ⟨x, rfl, q⟩
  exact "st"
  exact ret_v (by exact "v") q
theorem ok_Matter_rank (B : Blt mg) (F : Df K d_Matter_rank f fd) : FnOk P w K mg base (L2.CX P w) 1 f fd ["self"] (spD K 1 (G_const (.int 0))) := by
  refine def_ok' F sc_Matter_rank rfl N_Matter_rank rfl (by decide +kernel) ?_
  rintro X rfl rfl rfl rfl rfl ⟨nN, nd, sc, calm, fn, room, un, pass, stk, frm, exs⟩ ⟨⟨_, _⟩, _⟩ om ds Q Rr hl ⟨x, rfl, q⟩
  exact "st"
  exact ret_v (by exact "v") q
theorem ok_Change_kind (B : Blt mg) (F : Df K d_Change_kind f fd) : FnOk P w K mg base (L2.CX P w) 1 f fd ["self"] (spD K 1 (G_const (.str "change"))) := by
  refine def_ok' F sc_Change_kind rfl N_Change_kind rfl (by decide +kernel) ?_
  rintro X rfl rfl rfl rfl rfl ⟨nN, nd, sc, calm, fn, room, un, pass, stk, frm, exs⟩ ⟨⟨_, _⟩, _⟩ om ds Q Rr hl ⟨x, rfl, q⟩
  exact "st"
  exact ret_v (by exact "v") q
theorem ok_Change_rank (B : Blt mg) (F : Df K d_Change_rank f fd) : FnOk P w K mg base (L2.CX P w) 1 f fd ["self"] (spD K 1 (G_const (.int 1))) := by
  refine def_ok' F sc_Change_rank rfl N_Change_rank rfl (by decide +kernel) ?_
  rintro X rfl rfl rfl rfl rfl ⟨nN, nd, sc, calm, fn, room, un, pass, stk, frm, exs⟩ ⟨⟨_, _⟩, _⟩ om ds Q Rr hl ⟨x, rfl, q⟩
  exact "st"
  exact ret_v (by exact "v") q
theorem ok_Mend_kind (B : Blt mg) (F : Df K d_Mend_kind f fd) : FnOk P w K mg base (L2.CX P w) 1 f fd ["self"] (spD K 1 (G_const (.str "mend"))) := by
  refine def_ok' F sc_Mend_kind rfl N_Mend_kind rfl (by decide +kernel) ?_
  rintro X rfl rfl rfl rfl rfl ⟨nN, nd, sc, calm, fn, room, un, pass, stk, frm, exs⟩ ⟨⟨_, _⟩, _⟩ om ds Q Rr hl ⟨x, rfl, q⟩
  exact "st"
  exact ret_v (by exact "v") q
theorem ok_Mend_rank (B : Blt mg) (F : Df K d_Mend_rank f fd) : FnOk P w K mg base (L2.CX P w) 1 f fd ["self"] (spD K 1 (G_const (.int 2))) := by
  refine def_ok' F sc_Mend_rank rfl N_Mend_rank rfl (by decide +kernel) ?_
  rintro X rfl rfl rfl rfl rfl ⟨nN, nd, sc, calm, fn, room, un, pass, stk, frm, exs⟩ ⟨⟨_, _⟩, _⟩ om ds Q Rr hl ⟨x, rfl, q⟩
  exact "st"
  exact ret_v (by exact "v") q
theorem ok_PutOff_kind (B : Blt mg) (F : Df K d_PutOff_kind f fd) : FnOk P w K mg base (L2.CX P w) 1 f fd ["self"] (spD K 1 (G_const (.str "put off"))) := by
  refine def_ok' F sc_PutOff_kind rfl N_PutOff_kind rfl (by decide +kernel) ?_
  rintro X rfl rfl rfl rfl rfl ⟨nN, nd, sc, calm, fn, room, un, pass, stk, frm, exs⟩ ⟨⟨_, _⟩, _⟩ om ds Q Rr hl ⟨x, rfl, q⟩
  exact "st"
  exact ret_v (by exact "v") q
theorem ok_PutOff_rank (B : Blt mg) (F : Df K d_PutOff_rank f fd) : FnOk P w K mg base (L2.CX P w) 1 f fd ["self"] (spD K 1 (G_const (.int 3))) := by
  refine def_ok' F sc_PutOff_rank rfl N_PutOff_rank rfl (by decide +kernel) ?_
  rintro X rfl rfl rfl rfl rfl ⟨nN, nd, sc, calm, fn, room, un, pass, stk, frm, exs⟩ ⟨⟨_, _⟩, _⟩ om ds Q Rr hl ⟨x, rfl, q⟩
  exact "st"
  exact ret_v (by exact "v") q
theorem ok_Close_kind (B : Blt mg) (F : Df K d_Close_kind f fd) : FnOk P w K mg base (L2.CX P w) 1 f fd ["self"] (spD K 1 (G_const (.str "close"))) := by
  refine def_ok' F sc_Close_kind rfl N_Close_kind rfl (by decide +kernel) ?_
  rintro X rfl rfl rfl rfl rfl ⟨nN, nd, sc, calm, fn, room, un, pass, stk, frm, exs⟩ ⟨⟨_, _⟩, _⟩ om ds Q Rr hl ⟨x, rfl, q⟩
  exact "st"
  exact ret_v (by exact "v") q
theorem ok_Close_rank (B : Blt mg) (F : Df K d_Close_rank f fd) : FnOk P w K mg base (L2.CX P w) 1 f fd ["self"] (spD K 1 (G_const (.int 4))) := by
  refine def_ok' F sc_Close_rank rfl N_Close_rank rfl (by decide +kernel) ?_
  rintro X rfl rfl rfl rfl rfl ⟨nN, nd, sc, calm, fn, room, un, pass, stk, frm, exs⟩ ⟨⟨_, _⟩, _⟩ om ds Q Rr hl ⟨x, rfl, q⟩
  exact "st"
  exact ret_v (by exact "v") q
theorem ok_Close_need (B : Blt mg) (F : Df K d_Close_need f fd) : FnOk P w K mg base (L2.CX P w) 1 f fd ["self"] (spD K 1 (G_const (.str "two thirds"))) := by
  refine def_ok' F sc_Close_need rfl N_Close_need rfl (by decide +kernel) ?_
  rintro X rfl rfl rfl rfl rfl ⟨nN, nd, sc, calm, fn, room, un, pass, stk, frm, exs⟩ ⟨⟨_, _⟩, _⟩ om ds Q Rr hl ⟨x, rfl, q⟩
  exact "st"
  exact ret_v (by exact "v") q
theorem ok_Close_told (B : Blt mg) (F : Df K d_Close_told f fd) : FnOk P w K mg base (L2.CX P w) 1 f fd ["self"] (spD K 1 (G_const (.tup [.str "close"]))) := by
  refine def_ok' F sc_Close_told rfl N_Close_told rfl (by decide +kernel) ?_
  rintro X rfl rfl rfl rfl rfl ⟨nN, nd, sc, calm, fn, room, un, pass, stk, frm, exs⟩ ⟨⟨_, _⟩, _⟩ om ds Q Rr hl ⟨x, rfl, q⟩
  exact "st"
  exact ret_v (by exact "v") q
theorem ok_Lay_kind (B : Blt mg) (F : Df K d_Lay_kind f fd) : FnOk P w K mg base (L2.CX P w) 1 f fd ["self"] (spD K 1 (G_const (.str "lay"))) := by
  refine def_ok' F sc_Lay_kind rfl N_Lay_kind rfl (by decide +kernel) ?_
  rintro X rfl rfl rfl rfl rfl ⟨nN, nd, sc, calm, fn, room, un, pass, stk, frm, exs⟩ ⟨⟨_, _⟩, _⟩ om ds Q Rr hl ⟨x, rfl, q⟩
  exact "st"
  exact ret_v (by exact "v") q
theorem ok_Lay_rank (B : Blt mg) (F : Df K d_Lay_rank f fd) : FnOk P w K mg base (L2.CX P w) 1 f fd ["self"] (spD K 1 (G_const (.int 5))) := by
  refine def_ok' F sc_Lay_rank rfl N_Lay_rank rfl (by decide +kernel) ?_
  rintro X rfl rfl rfl rfl rfl ⟨nN, nd, sc, calm, fn, room, un, pass, stk, frm, exs⟩ ⟨⟨_, _⟩, _⟩ om ds Q Rr hl ⟨x, rfl, q⟩
  exact "st"
  exact ret_v (by exact "v") q
theorem ok_Lay_told (B : Blt mg) (F : Df K d_Lay_told f fd) : FnOk P w K mg base (L2.CX P w) 1 f fd ["self"] (spD K 1 (G_const (.tup [.str "lay"]))) := by
  refine def_ok' F sc_Lay_told rfl N_Lay_told rfl (by decide +kernel) ?_
  rintro X rfl rfl rfl rfl rfl ⟨nN, nd, sc, calm, fn, room, un, pass, stk, frm, exs⟩ ⟨⟨_, _⟩, _⟩ om ds Q Rr hl ⟨x, rfl, q⟩
  exact "st"
  exact ret_v (by exact "v") q
theorem ok_Rest_kind (B : Blt mg) (F : Df K d_Rest_kind f fd) : FnOk P w K mg base (L2.CX P w) 1 f fd ["self"] (spD K 1 (G_const (.str "rest"))) := by
  refine def_ok' F sc_Rest_kind rfl N_Rest_kind rfl (by decide +kernel) ?_
  rintro X rfl rfl rfl rfl rfl ⟨nN, nd, sc, calm, fn, room, un, pass, stk, frm, exs⟩ ⟨⟨_, _⟩, _⟩ om ds Q Rr hl ⟨x, rfl, q⟩
  exact "st"
  exact ret_v (by exact "v") q
theorem ok_Rest_rank (B : Blt mg) (F : Df K d_Rest_rank f fd) : FnOk P w K mg base (L2.CX P w) 1 f fd ["self"] (spD K 1 (G_const (.int 6))) := by
  refine def_ok' F sc_Rest_rank rfl N_Rest_rank rfl (by decide +kernel) ?_
  rintro X rfl rfl rfl rfl rfl ⟨nN, nd, sc, calm, fn, room, un, pass, stk, frm, exs⟩ ⟨⟨_, _⟩, _⟩ om ds Q Rr hl ⟨x, rfl, q⟩
  exact "st"
  exact ret_v (by exact "v") q
theorem ok_Rest_told (B : Blt mg) (F : Df K d_Rest_told f fd) : FnOk P w K mg base (L2.CX P w) 1 f fd ["self"] (spD K 1 (G_const (.tup [.str "rest"]))) := by
  refine def_ok' F sc_Rest_told rfl N_Rest_told rfl (by decide +kernel) ?_
  rintro X rfl rfl rfl rfl rfl ⟨nN, nd, sc, calm, fn, room, un, pass, stk, frm, exs⟩ ⟨⟨_, _⟩, _⟩ om ds Q Rr hl ⟨x, rfl, q⟩
  exact "st"
  exact ret_v (by exact "v") q
theorem ok_Point_kind (B : Blt mg) (F : Df K d_Point_kind f fd) : FnOk P w K mg base (L2.CX P w) 1 f fd ["self"] (spD K 1 (G_const (.str "point"))) := by
  refine def_ok' F sc_Point_kind rfl N_Point_kind rfl (by decide +kernel) ?_
  rintro X rfl rfl rfl rfl rfl ⟨nN, nd, sc, calm, fn, room, un, pass, stk, frm, exs⟩ ⟨⟨_, _⟩, _⟩ om ds Q Rr hl ⟨x, rfl, q⟩
  exact "st"
  exact ret_v (by exact "v") q
theorem ok_Point_rank (B : Blt mg) (F : Df K d_Point_rank f fd) : FnOk P w K mg base (L2.CX P w) 1 f fd ["self"] (spD K 1 (G_const (.int 7))) := by
  refine def_ok' F sc_Point_rank rfl N_Point_rank rfl (by decide +kernel) ?_
  rintro X rfl rfl rfl rfl rfl ⟨nN, nd, sc, calm, fn, room, un, pass, stk, frm, exs⟩ ⟨⟨_, _⟩, _⟩ om ds Q Rr hl ⟨x, rfl, q⟩
  exact "st"
  exact ret_v (by exact "v") q
theorem ok_Change_init {C : Addr} (B : Blt mg) (A : Att K C "edit") (F : Df K d_Change_init f fd) : FnOk P w K mg base (L2.CX P w) 1 f fd ["self", "edit"] (spD K 2 (G_set1 C "edit")) := by
  refine def_ok' F sc_Change_init rfl N_Change_init rfl (by decide +kernel) ?_
  rintro X rfl rfl rfl rfl rfl ⟨nN, nd, sc, calm, fn, room, un, pass, stk, frm, exs⟩ ⟨⟨_, _⟩, ⟨_, _⟩, _⟩ om ds Q Rr hl ⟨a, x, rfl, ha, q⟩
  exact "st"
  apply st_fld
  · exact "v"
  · exact "v"
  · exact ha
  · exact A
  · decide
  · exact ws_nil q
  · exact "sd"
theorem ok_Mend_init {C : Addr} (B : Blt mg) (A : Att K C "edit") (F : Df K d_Mend_init f fd) : FnOk P w K mg base (L2.CX P w) 1 f fd ["self", "edit"] (spD K 2 (G_set1 C "edit")) := by
  refine def_ok' F sc_Mend_init rfl N_Mend_init rfl (by decide +kernel) ?_
  rintro X rfl rfl rfl rfl rfl ⟨nN, nd, sc, calm, fn, room, un, pass, stk, frm, exs⟩ ⟨⟨_, _⟩, ⟨_, _⟩, _⟩ om ds Q Rr hl ⟨a, x, rfl, ha, q⟩
  exact "st"
  apply st_fld
  · exact "v"
  · exact "v"
  · exact ha
  · exact A
  · decide
  · exact ws_nil q
  · exact "sd"
theorem ok_PutOff_init {C : Addr} (B : Blt mg) (A : Att K C "sitting") (F : Df K d_PutOff_init f fd) : FnOk P w K mg base (L2.CX P w) 1 f fd ["self", "sitting"] (spD K 2 (G_set1 C "sitting")) := by
  refine def_ok' F sc_PutOff_init rfl N_PutOff_init rfl (by decide +kernel) ?_
  rintro X rfl rfl rfl rfl rfl ⟨nN, nd, sc, calm, fn, room, un, pass, stk, frm, exs⟩ ⟨⟨_, _⟩, ⟨_, _⟩, _⟩ om ds Q Rr hl ⟨a, x, rfl, ha, q⟩
  exact "st"
  apply st_fld
  · exact "v"
  · exact "v"
  · exact ha
  · exact A
  · decide
  · exact ws_nil q
  · exact "sd"
theorem ok_Point_init {C : Addr} (B : Blt mg) (A : Att K C "clause") (F : Df K d_Point_init f fd) : FnOk P w K mg base (L2.CX P w) 1 f fd ["self", "clause"] (spD K 2 (G_set1 C "clause")) := by
  refine def_ok' F sc_Point_init rfl N_Point_init rfl (by decide +kernel) ?_
  rintro X rfl rfl rfl rfl rfl ⟨nN, nd, sc, calm, fn, room, un, pass, stk, frm, exs⟩ ⟨⟨_, _⟩, ⟨_, _⟩, _⟩ om ds Q Rr hl ⟨a, x, rfl, ha, q⟩
  exact "st"
  apply st_fld
  · exact "v"
  · exact "v"
  · exact ha
  · exact A
  · decide
  · exact ws_nil q
  · exact "sd"
theorem ok_Change_told {C : Addr} (B : Blt mg) (A : Att K C "edit") (F : Df K d_Change_told f fd) : FnOk P w K mg base (L2.CX P w) 1 f fd ["self"] (spD K 1 (G_told1 C "change" "edit")) := by
  refine def_ok' F sc_Change_told rfl N_Change_told rfl (by decide +kernel) ?_
  rintro X rfl rfl rfl rfl rfl ⟨nN, nd, sc, calm, fn, room, un, pass, stk, frm, exs⟩ ⟨⟨_, _⟩, _⟩ om ds Q Rr hl ⟨a, x, rfl, ha, q⟩
  exact "st"
  refine ret_v (d := .tup [.str "change", x]) ?_ q
  (with_reducible apply v_tup)
  · (with_reducible apply av_cons)
    · exact "v"
    · (with_reducible apply av_cons)
      · (with_reducible apply v_fld)
        · exact "v"
        · exact ha
        · exact A
        · rfl
        · exact "sd"
      · exact "av"
      · exact "sd"
    · exact "sd"
  · exact "ar"
theorem ok_Mend_told {C : Addr} (B : Blt mg) (A : Att K C "edit") (F : Df K d_Mend_told f fd) : FnOk P w K mg base (L2.CX P w) 1 f fd ["self"] (spD K 1 (G_told1 C "mend" "edit")) := by
  refine def_ok' F sc_Mend_told rfl N_Mend_told rfl (by decide +kernel) ?_
  rintro X rfl rfl rfl rfl rfl ⟨nN, nd, sc, calm, fn, room, un, pass, stk, frm, exs⟩ ⟨⟨_, _⟩, _⟩ om ds Q Rr hl ⟨a, x, rfl, ha, q⟩
  exact "st"
  refine ret_v (d := .tup [.str "mend", x]) ?_ q
  (with_reducible apply v_tup)
  · (with_reducible apply av_cons)
    · exact "v"
    · (with_reducible apply av_cons)
      · (with_reducible apply v_fld)
        · exact "v"
        · exact ha
        · exact A
        · rfl
        · exact "sd"
      · exact "av"
      · exact "sd"
    · exact "sd"
  · exact "ar"
theorem ok_PutOff_told {C : Addr} (B : Blt mg) (A : Att K C "sitting") (F : Df K d_PutOff_told f fd) : FnOk P w K mg base (L2.CX P w) 1 f fd ["self"] (spD K 1 (G_told1 C "put off" "sitting")) := by
  refine def_ok' F sc_PutOff_told rfl N_PutOff_told rfl (by decide +kernel) ?_
  rintro X rfl rfl rfl rfl rfl ⟨nN, nd, sc, calm, fn, room, un, pass, stk, frm, exs⟩ ⟨⟨_, _⟩, _⟩ om ds Q Rr hl ⟨a, x, rfl, ha, q⟩
  exact "st"
  refine ret_v (d := .tup [.str "put off", x]) ?_ q
  (with_reducible apply v_tup)
  · (with_reducible apply av_cons)
    · exact "v"
    · (with_reducible apply av_cons)
      · (with_reducible apply v_fld)
        · exact "v"
        · exact ha
        · exact A
        · rfl
        · exact "sd"
      · exact "av"
      · exact "sd"
    · exact "sd"
  · exact "ar"
theorem ok_Point_told {C : Addr} (B : Blt mg) (A : Att K C "clause") (F : Df K d_Point_told f fd) : FnOk P w K mg base (L2.CX P w) 1 f fd ["self"] (spD K 1 (G_told1 C "point" "clause")) := by
  refine def_ok' F sc_Point_told rfl N_Point_told rfl (by decide +kernel) ?_
  rintro X rfl rfl rfl rfl rfl ⟨nN, nd, sc, calm, fn, room, un, pass, stk, frm, exs⟩ ⟨⟨_, _⟩, _⟩ om ds Q Rr hl ⟨a, x, rfl, ha, q⟩
  exact "st"
  refine ret_v (d := .tup [.str "point", x]) ?_ q
  (with_reducible apply v_tup)
  · (with_reducible apply av_cons)
    · exact "v"
    · (with_reducible apply av_cons)
      · (with_reducible apply v_fld)
        · exact "v"
        · exact ha
        · exact A
        · rfl
        · exact "sd"
      · exact "av"
      · exact "sd"
    · exact "sd"
  · exact "ar"
def G_Matter_told (C : Addr) : Fs := fun ds om Q _ => ∃ a q f t, ds = [.obj a] ∧ om a = some (.ins C [("first", .lst (List.map .str f)), ("text", .lst (List.map .str t)), ("changes", .obj q)]) ∧ ∀ p, om p = none → Q (.tup [.str "matter", .obj p]) (ups om p (.lst (t.map .str)))
theorem ok_Matter_told {C : Addr} (B : Blt mg) (A : Att K C "text") (F : Df K d_Matter_told f fd) : FnOk P w K mg base (L2.CX P w) 1 f fd ["self"] (spD K 1 (G_Matter_told C)) := by
  refine def_ok' F sc_Matter_told rfl N_Matter_told rfl (by decide +kernel) ?_
  rintro X rfl rfl rfl rfl rfl ⟨nN, nd, sc, calm, fn, room, un, pass, stk, frm, exs⟩ ⟨⟨_, _⟩, _⟩ om ds Q Rr hl ⟨a, p0, f, t, rfl, ha, q⟩
  exact "st"
  have hf : wv X [some (.obj a)] om (.Attribute (.Name "self" ⟨0, 0, 0, 0⟩) "text" ⟨0, 0, 0, 0⟩) (.lst (t.map .str)) := by
    (with_reducible apply v_fld)
    · exact "v"
    · exact ha
    · exact A
    · rfl
    · exact "sd"
  refine ret_e (e_tup (a_cons ((v_str (x := "matter")) _ _ (a_cons ((show wn X _ om _ (t.map D.str) from ?_) _ _ fun p hp => a_nil ⟨by rw [sizeLine_eq]; show 2 ≤ 16777216; decide, q p hp⟩) rfl)) rfl))
  (with_reducible apply n_bi)
  · (with_reducible apply av_cons)
    · (with_reducible apply v_fld)
      · exact "v"
      · exact ha
      · exact A
      · rfl
      · exact "sd"
    · exact "av"
    · exact "sd"
  · exact "bi"
  · exact "cn"
  · exact "gl"
  · exact "sd"
  · exact "sd"
def G_Matter_init (C : Addr) : Fs := fun ds om Q _ => ∃ a x zs, ds = [.obj a, x] ∧ om a = some (.ins C []) ∧ Lr om x (List.map .str zs) ∧ ∀ q om', om q = none → om' a = some (.ins C [("first", .lst (zs.map .str)), ("text", .lst (zs.map .str)), ("changes", .obj q)]) → om' q = some (.lst []) → (∀ b o, b ≠ a → om b = some o → om' b = some o) → Q .non om'
theorem ok_Matter_init {C : Addr} (B : Blt mg) (A1 : Att K C "first") (A2 : Att K C "text") (A3 : Att K C "changes") (F : Df K d_Matter_init f fd) : FnOk P w K mg base (L2.CX P w) 1 f fd ["self", "text"] (spD K 2 (G_Matter_init C)) := by
  refine def_ok' F sc_Matter_init rfl N_Matter_init rfl (by decide +kernel) ?_
  rintro X rfl rfl rfl rfl rfl ⟨nN, nd, sc, calm, fn, room, un, pass, stk, frm, exs⟩ ⟨⟨_, _⟩, ⟨_, _⟩, _⟩ om ds Q Rr hl ⟨a, x, zs, rfl, ha, l, q⟩
  exact "st"
  have l2 : ∀ u, Lr (ups om a (.ins C u)) x (zs.map .str) := fun u => l.elim .inl fun ⟨b, eb, hb⟩ => .inr ⟨b, eb, by rw [ups_ne (fun z => by subst z; rw [ha] at hb; cases hb)]; exact hb⟩
  have l3 := l2 [("first", .lst (zs.map .str))]
  apply st_fld (d := .lst (zs.map .str)) (p := a) (C := C)
  · exact "v"
  · exact "v"
  · exact ha
  · exact A1
  · decide
  show ws X _ _ (ups om a (.ins C [("first", .lst (zs.map .str))])) _
  apply st_fld (d := .lst (zs.map .str)) (p := a) (C := C)
  · exact "v"
  · exact "v"
  · exact ups_same
  · exact A2
  · show 1 < 1000
    decide
  rw [ups_ups]
  show ws X _ _ (ups om a (.ins C [("first", .lst (zs.map .str)), ("text", .lst (zs.map .str))])) _
  have l4 := l2 [("first", .lst (zs.map .str)), ("text", .lst (zs.map .str))]
  apply st_fldN (ds := []) (p := a) (C := C)
  · exact "n"
  · intro _ _
    exact "v"
  · exact ups_same
  · exact A3
  · show 2 < 1000
    decide
  intro p hp hpa
  have hp2 : om p = none := by rw [ups_ne hpa] at hp; exact hp
  refine ws_nil (q p _ hp2 ups_same ?_ fun b o hb ho => ?_)
  · rw [ups_ne hpa, ups_same]
  · have hbp : b ≠ p := fun z => by subst z; rw [hp2] at ho; cases ho
    rw [ups_ne hb, ups_ne hbp, ups_ne hb]
    exact ho
--SEG
abbrev ka (K : PySem.W.Frag) : Ka := ⟨He.ga K "Matter", He.ga K "Change", He.ga K "Mend", He.ga K "PutOff", He.ga K "Close", He.ga K "Lay", He.ga K "Rest", He.ga K "Point"⟩
def G_tdm (κ : Ka) : Mt → Fs
  | .matter _ _ _ => G_Matter_told κ.M
  | .change _ => G_told1 κ.C "change" "edit"
  | .mend _ => G_told1 κ.E "mend" "edit"
  | .putOff _ => G_told1 κ.P "put off" "sitting"
  | .close => G_const (.tup [.str "close"])
  | .lay => G_const (.tup [.str "lay"])
  | .rest => G_const (.tup [.str "rest"])
  | .point _ => G_told1 κ.T "point" "clause"
/-- the motions' classes -/
structure Mots (P : Program) (w : World) (K : PySem.W.Frag) (mg : Str → Option Value) (base : Heap) : Prop where
  mM : MkOk P w K mg base "Matter" (ka K).M 1 2 (G_Matter_init (ka K).M)
  mC : MkOk P w K mg base "Change" (ka K).C 1 2 (G_set1 (ka K).C "edit")
  mE : MkOk P w K mg base "Mend" (ka K).E 1 2 (G_set1 (ka K).E "edit")
  mP : MkOk P w K mg base "PutOff" (ka K).P 1 2 (G_set1 (ka K).P "sitting")
  mO : Mk0 K mg "Close" (ka K).O
  mL : Mk0 K mg "Lay" (ka K).L
  mR : Mk0 K mg "Rest" (ka K).R
  mT : MkOk P w K mg base "Point" (ka K).T 1 2 (G_set1 (ka K).T "clause")
  kd : ∀ m : Mt, MethOk P w K mg base (m.cls (ka K)) "kind" 1 1 (G_const (.str m.td.kind))
  rk : ∀ m : Mt, MethOk P w K mg base (m.cls (ka K)) "rank" 1 1 (G_const (.int m.rank))
  nd : ∀ m : Mt, MethOk P w K mg base (m.cls (ka K)) "need" 1 1 (G_const (.str m.need))
  td : ∀ m : Mt, MethOk P w K mg base (m.cls (ka K)) "told" 1 1 (G_tdm (ka K) m)
theorem look_kind (q : Addr) (m : Mt) : (m.fs q).lookup ("kind" : Str) = none := by cases m <;> rfl
theorem look_rank (q : Addr) (m : Mt) : (m.fs q).lookup ("rank" : Str) = none := by cases m <;> rfl
theorem look_need (q : Addr) (m : Mt) : (m.fs q).lookup ("need" : Str) = none := by cases m <;> rfl
theorem look_told (q : Addr) (m : Mt) : (m.fs q).lookup ("told" : Str) = none := by cases m <;> rfl
theorem pu_const {om : Om} {x d : D} : Pu (G_const d) om [x] d := .mk fun Q R q => ⟨x, rfl, q⟩
section
variable {X : Cx} {ro : Ro} {om : Om} {o : Expr} {a p : Addr} {m : Mt} {apos pos : Pos} {pl : Sem Bool}
theorem v_kind (M : Mots X.prog X.w X.K X.mg X.base) (h : wv X ro om o (.obj a)) (A : m.At (ka X.K) om a p) (hr : Room 1 X.A) (ht : eval (.Call (.Attribute o "kind" apos) [] [] pos) X.env = (do
      let ov ← eval o X.env
      standAt apos.atName
      let (f, first) ← holding [ov] (getMethod ov "kind" pl)
      callWith pos f first (backTo pos (starEach [] X.env)) (backToKw pos (keywordEach [] X.env)))) : wv X ro om (.Call (.Attribute o "kind" apos) [] [] pos) (.str m.td.kind) := v_meth0 (pl := pl) h A.o (look_kind p m) (M.kd m) hr pu_const ht
theorem v_rank (M : Mots X.prog X.w X.K X.mg X.base) (h : wv X ro om o (.obj a)) (A : m.At (ka X.K) om a p) (hr : Room 1 X.A) (ht : eval (.Call (.Attribute o "rank" apos) [] [] pos) X.env = (do
      let ov ← eval o X.env
      standAt apos.atName
      let (f, first) ← holding [ov] (getMethod ov "rank" pl)
      callWith pos f first (backTo pos (starEach [] X.env)) (backToKw pos (keywordEach [] X.env)))) : wv X ro om (.Call (.Attribute o "rank" apos) [] [] pos) (.int m.rank) := v_meth0 (pl := pl) h A.o (look_rank p m) (M.rk m) hr pu_const ht
theorem v_need (M : Mots X.prog X.w X.K X.mg X.base) (h : wv X ro om o (.obj a)) (A : m.At (ka X.K) om a p) (hr : Room 1 X.A) (ht : eval (.Call (.Attribute o "need" apos) [] [] pos) X.env = (do
      let ov ← eval o X.env
      standAt apos.atName
      let (f, first) ← holding [ov] (getMethod ov "need" pl)
      callWith pos f first (backTo pos (starEach [] X.env)) (backToKw pos (keywordEach [] X.env)))) : wv X ro om (.Call (.Attribute o "need" apos) [] [] pos) (.str m.need) := v_meth0 (pl := pl) h A.o (look_need p m) (M.nd m) hr pu_const ht
/-- a matter tells a new list -/
theorem e_toldM {f t : List Str} {ch : List Ed} (M : Mots X.prog X.w X.K X.mg X.base) (h : wv X ro om o (.obj a)) (A : (Mt.matter f t ch).At (ka X.K) om a p) (hr : Room 1 X.A) (ht : eval (.Call (.Attribute o "told" apos) [] [] pos) X.env = (do
      let ov ← eval o X.env
      standAt apos.atName
      let (f, first) ← holding [ov] (getMethod ov "told" pl)
      callWith pos f first (backTo pos (starEach [] X.env)) (backToKw pos (keywordEach [] X.env)))) (R : RX) (Q : DK) (q : ∀ q, om q = none → Q (.tup [.str "matter", .obj q]) (ups om q (.lst (t.map .str)))) : we X R ro om (.Call (.Attribute o "told" apos) [] [] pos) Q :=
  e_meth0 (pl := pl) (h R _ ⟨a, _, _, 1, _, rfl, A.o, look_told p _, M.td (.matter f t ch), hr, a, p, f, t, rfl, A.o, q⟩) ht
theorem v_told (M : Mots X.prog X.w X.K X.mg X.base) (h : wv X ro om o (.obj a)) (A : m.At (ka X.K) om a p) (hr : Room 1 X.A) (ht : eval (.Call (.Attribute o "told" apos) [] [] pos) X.env = (do
      let ov ← eval o X.env
      standAt apos.atName
      let (f, first) ← holding [ov] (getMethod ov "told" pl)
      callWith pos f first (backTo pos (starEach [] X.env)) (backToKw pos (keywordEach [] X.env)))) : wv X ro om (.Call (.Attribute o "told" apos) [] [] pos) m.td.d := by
  have g1 : ∀ {C : Addr} {k f : Str} {x : D}, om a = some (.ins C [(f, x)]) → Pu (G_told1 C k f) om [.obj a] (.tup [.str k, x]) := fun ha => .mk fun Q R q => ⟨a, _, rfl, ha, q⟩
  have M1 := M.td m
  have hk := look_told p m
  have A0 := A.o
  cases m with
  | matter f t ch => exact tupL_v fun R Q q => e_toldM M h A hr ht R Q q
  | change e => exact v_meth0 (pl := pl) h A0 hk M1 hr (g1 A0) ht
  | mend e => exact v_meth0 (pl := pl) h A0 hk M1 hr (g1 A0) ht
  | putOff e => exact v_meth0 (pl := pl) h A0 hk M1 hr (g1 A0) ht
  | close => exact v_meth0 (pl := pl) h A0 hk M1 hr pu_const ht
  | lay => exact v_meth0 (pl := pl) h A0 hk M1 hr pu_const ht
  | rest => exact v_meth0 (pl := pl) h A0 hk M1 hr pu_const ht
  | point e => exact v_meth0 (pl := pl) h A0 hk M1 hr (g1 A0) ht
end
/-- the making of a motion, as a wish of the store behind it -/
def Made (κ : Ka) (om : Om) (m : Mt) (Q : DK) : Prop := ∀ a q om', om a = none → om q = none → (m.chs ≠ none → a ≠ q) → m.At κ om' a q → Ext om om' → Q (.obj a) om'
theorem made_plain {κ : Ka} {om : Om} {m : Mt} {Q : DK} (q : Made κ om m Q) (hc : m.chs = none) (a : Addr) (ha : om a = none) : Q (.obj a) (ups om a (.ins (m.cls κ) (m.fs a))) :=
  q a a _ ha ha (fun z => absurd hc z) ⟨ups_same, fun ch e => by rw [hc] at e; cases e⟩ (Ext.ups ha)
def G_motion_of (κ : Ka) : Fs := fun ds om Q _ => ∃ x t, ds = [x] ∧ TdAt om x t ∧ Made κ om t.mk Q
theorem ok_motion_of (B : Blt mg) (M : Mots P w K mg base) (F : Df K d_motion_of f fd) : FnOk P w K mg base (L2.CX P w) 3 f fd ["told"] (spD K 1 (G_motion_of (ka K))) := by
  refine def_ok' F sc_motion_of rfl N_motion_of rfl (by decide +kernel) ?_
  rintro X rfl rfl rfl rfl rfl ⟨nN, nd, sc, calm, fn, room, un, pass, stk, frm, exs⟩ ⟨⟨_, _⟩, ⟨_, _⟩, _⟩ om ds Q Rr hl ⟨x, t, rfl, ht, q⟩
  exact "st"
  have set1 : ∀ {C : Addr} {f : Str} {y : D} {m : Mt}, m.chs = none → m.cls (ka X.K) = C → (∀ q, m.fs q = [(f, y)]) → Made (ka X.K) om m Q → ∀ a, om a = none → G_set1 C f [.obj a, y] (ups om a (.ins C [])) (fun d om' => d = .non ∧ Q (.obj a) om') (fun _ _ _ => False) := fun {C f y m} h1 h2 h3 q a ha =>
    ⟨a, y, rfl, ups_same, rfl, by rw [ups_ups, ← h2, ← h3 a]; exact made_plain q h1 a ha⟩
  cases t with
  | matter t =>
    obtain ⟨y, rfl, ly⟩ := ht
    exact "asg"
    apply st_yes
    · exact "t"
    · decide
    refine ret_e (e_make M.mM (Room.mono room (by decide)) ((show wav X _ om _ [y] from ?_) _ _ ⟨rfl, fun a ha => ⟨a, y, t, rfl, ups_same, ?_, fun p om' hp h1 h2 h3 => ⟨rfl, q a p om' ha ?_ (fun _ z => ?_) ⟨h1, fun ch e => ?_⟩ fun b o hb => ?_⟩⟩⟩) (by exact "gl") (by decide) rfl rfl)
    · exact "av"
    · exact ly.elim .inl fun ⟨b, eb, hb⟩ => .inr ⟨b, eb, ups_keep hb ha⟩
    · by_cases z : p = a
      · subst z; exact ha
      · rw [ups_ne z] at hp; exact hp
    · subst z; rw [ups_same] at hp; cases hp
    · cases e; exact h2
    · have hba : b ≠ a := fun z => by subst z; rw [ha] at hb; cases hb
      exact h3 b o hba (by rw [ups_ne hba]; exact hb)
  | change e =>
    cases ht
    unfold Td.d
    exact "asg"
    apply st_no
    · exact "t"
    · decide
    apply st_yes
    · exact "t"
    · decide
    refine ret_e (e_make M.mC (Room.mono room (by decide)) ((show wav X _ om _ [e.d] from ?_) _ _ ⟨rfl, set1 rfl rfl (fun _ => rfl) q⟩) (by exact "gl") (by decide) rfl rfl)
    exact "av"
  | mend e =>
    cases ht
    unfold Td.d
    exact "asg"
    apply st_no
    · exact "t"
    · decide
    apply st_no
    · exact "t"
    · decide
    apply st_yes
    · exact "t"
    · decide
    refine ret_e (e_make M.mE (Room.mono room (by decide)) ((show wav X _ om _ [e.d] from ?_) _ _ ⟨rfl, set1 rfl rfl (fun _ => rfl) q⟩) (by exact "gl") (by decide) rfl rfl)
    exact "av"
  | putOff n =>
    cases ht
    unfold Td.d
    exact "asg"
    iterate 3
      apply st_no
      · exact "t"
      · decide
    apply st_yes
    · exact "t"
    · decide
    refine ret_e (e_make M.mP (Room.mono room (by decide)) ((show wav X _ om _ [.int n] from ?_) _ _ ⟨rfl, set1 rfl rfl (fun _ => rfl) q⟩) (by exact "gl") (by decide) rfl rfl)
    exact "av"
  | close =>
    cases ht
    unfold Td.d
    exact "asg"
    iterate 4
      apply st_no
      · exact "t"
      · decide
    apply st_yes
    · exact "t"
    · decide
    exact ret_e (e_make00 M.mO (fun a ha => made_plain q rfl a ha) (by exact "gl"))
  | lay =>
    cases ht
    unfold Td.d
    exact "asg"
    iterate 5
      apply st_no
      · exact "t"
      · decide
    apply st_yes
    · exact "t"
    · decide
    exact ret_e (e_make00 M.mL (fun a ha => made_plain q rfl a ha) (by exact "gl"))
  | rest =>
    cases ht
    unfold Td.d
    exact "asg"
    iterate 6
      apply st_no
      · exact "t"
      · decide
    apply st_yes
    · exact "t"
    · decide
    exact ret_e (e_make00 M.mR (fun a ha => made_plain q rfl a ha) (by exact "gl"))
  | point s =>
    cases ht
    unfold Td.d
    exact "asg"
    iterate 7
      apply st_no
      · exact "t"
      · decide
    refine ret_e (e_make M.mT (Room.mono room (by decide)) ((show wav X _ om _ [.str s] from ?_) _ _ ⟨rfl, set1 rfl rfl (fun _ => rfl) q⟩) (by exact "gl") (by decide) rfl rfl)
    exact "av"
local macro_rules | `(tactic| exact "v") => `(tactic| ((with_reducible apply v_need); assumption; (focus exact "v"); assumption; exact Room.mono (by assumption) (by decide); rfl))
local macro_rules | `(tactic| exact "v") => `(tactic| first | ((with_reducible apply v_kind); assumption; (focus exact "v"); assumption; exact Room.mono (by assumption) (by decide); rfl) | ((with_reducible apply v_rank); assumption; (focus exact "v"); assumption; exact Room.mono (by assumption) (by decide); rfl) | ((with_reducible apply v_told); assumption; (focus exact "v"); assumption; exact Room.mono (by assumption) (by decide); rfl))
--SEG
/-- of what sort each motion is -/
structure Sorts (K : PySem.W.Frag) (mg : Str → Option Value) : Prop where
  gO : mg "Motion" = some (.ref (He.ga K "Motion"))
  gM : mg "Matter" = some (.ref (ka K).M)
  gC : mg "Change" = some (.ref (ka K).C)
  gE : mg "Mend" = some (.ref (ka K).E)
  gP : mg "PutOff" = some (.ref (ka K).P)
  gO2 : mg "Close" = some (.ref (ka K).O)
  gL : mg "Lay" = some (.ref (ka K).L)
  gR : mg "Rest" = some (.ref (ka K).R)
  gT : mg "Point" = some (.ref (ka K).T)
  ins : ∀ m : Mt, InsC K (m.cls (ka K))
  kit : ∀ m m' : Mt, PySem.W.kitOne K (.ref (m.cls (ka K))) (.ref (m'.cls (ka K))) = some (decide (m.rank = m'.rank))
  top : ∀ m : Mt, PySem.W.kitOne K (.ref (m.cls (ka K))) (.ref (He.ga K "Motion")) = some true
theorem fSorts_at (c : fSorts K = true) {x y : Str} {i j : Nat} (hx : kNames[i]? = some x) (hy : kNames[j]? = some y) : PySem.W.kitOne K (.ref (He.ga K x)) (.ref (He.ga K "Motion")) = some true ∧ PySem.W.kitOne K (.ref (He.ga K x)) (.ref (He.ga K y)) = some (decide (i = j)) := by
  unfold fSorts at c
  have hz : ∀ {x : Str} {i : Nat}, kNames[i]? = some x → (x, i) ∈ kNames.zipIdx := fun {x i} h => by
    refine List.mem_of_getElem? (i := i) ?_
    rw [List.getElem?_zipIdx, h]
    simp
  have h1 := List.all_eq_true.mp c _ (hz hx)
  obtain ⟨h2, h3⟩ := Bool.and_eq_true_iff.mp h1
  exact ⟨of_decide_eq_true h2, of_decide_eq_true (List.all_eq_true.mp h3 _ (hz hy))⟩
def nmM : Mt → Str
  | .matter _ _ _ => "Matter" | .change _ => "Change" | .mend _ => "Mend" | .putOff _ => "PutOff" | .close => "Close" | .lay => "Lay" | .rest => "Rest" | .point _ => "Point"
def rkM : Mt → Nat
  | .matter _ _ _ => 0 | .change _ => 1 | .mend _ => 2 | .putOff _ => 3 | .close => 4 | .lay => 5 | .rest => 6 | .point _ => 7
theorem nmM_at (m : Mt) : kNames[rkM m]? = some (nmM m) := by cases m <;> rfl
theorem nmM_cls (m : Mt) : m.cls (ka K) = He.ga K (nmM m) := by cases m <;> rfl
theorem rkM_rank (m : Mt) : m.rank = rkM m := by cases m <;> rfl
theorem fSorts_kit (c : fSorts K = true) (m m' : Mt) : PySem.W.kitOne K (.ref (m.cls (ka K))) (.ref (m'.cls (ka K))) = some (decide (m.rank = m'.rank)) := by
  have h := (fSorts_at c (nmM_at m) (nmM_at m')).2
  rw [nmM_cls, nmM_cls, h, rkM_rank, rkM_rank]
  congr 1
  by_cases e : rkM m = rkM m'
  · rw [decide_eq_true e, decide_eq_true (by omega)]
  · rw [decide_eq_false e, decide_eq_false (by omega)]
theorem fSorts_top (c : fSorts K = true) (m : Mt) : PySem.W.kitOne K (.ref (m.cls (ka K))) (.ref (He.ga K "Motion")) = some true := by
  rw [nmM_cls]
  exact (fSorts_at c (nmM_at m) (show kNames[0]? = _ from rfl)).1
section
variable {X : Cx} {ro : Ro} {om : Om} {e : Expr} {a q : Addr} {m : Mt} {p p2 pos : Pos} {cn : Str}
theorem v_isM (S : Sorts X.K X.mg) (B : Blt X.mg) (m' : Mt) (h : wv X ro om e (.obj a)) (A : m.At (ka X.K) om a q) (hc : X.mg cn = some (.ref (m'.cls (ka X.K)))) (hg2 : Gl X cn) (hg : Gl X "isinstance") (hdb : (cn == ("__debug__" : Str)) = false)
    (he : starEach (e :: [.Name cn p2]) X.env = (false, eval e X.env) :: starEach [.Name cn p2] X.env) (he2 : starEach [.Name cn p2] X.env = (false, eval (.Name cn p2) X.env) :: starEach [] X.env)
    (hpl : (backTo pos (starEach [.Name cn p2] X.env)).any (·.1) = false) : wv X ro om (.Call (.Name "isinstance" p) [e, .Name cn p2] [] pos) (.bl (decide (m.rank = m'.rank))) :=
  v_isi h (.ins A.o (S.ins m)) (.own _ hc hdb) (S.kit m m') B.bIsi hg2 hg he he2 hpl
theorem v_isTop (S : Sorts X.K X.mg) (B : Blt X.mg) (h : wv X ro om e (.obj a)) (A : m.At (ka X.K) om a q) (hg2 : Gl X "Motion") (hg : Gl X "isinstance")
    (he : starEach (e :: [.Name "Motion" p2]) X.env = (false, eval e X.env) :: starEach [.Name "Motion" p2] X.env) (he2 : starEach [.Name "Motion" p2] X.env = (false, eval (.Name "Motion" p2) X.env) :: starEach [] X.env)
    (hpl : (backTo pos (starEach [.Name "Motion" p2] X.env)).any (·.1) = false) : wv X ro om (.Call (.Name "isinstance" p) [e, .Name "Motion" p2] [] pos) (.bl true) :=
  v_isi h (.ins A.o (S.ins m)) (.own _ S.gO (by decide)) (S.top m) B.bIsi hg2 hg he he2 hpl
theorem v_isMatter (S : Sorts X.K X.mg) (B : Blt X.mg) (h : wv X ro om e (.obj a)) (A : m.At (ka X.K) om a q) (hg2 : Gl X "Matter") (hg : Gl X "isinstance") (he : starEach (e :: [.Name "Matter" p2]) X.env = (false, eval e X.env) :: starEach [.Name "Matter" p2] X.env) (he2 : starEach [.Name "Matter" p2] X.env = (false, eval (.Name "Matter" p2) X.env) :: starEach [] X.env)
    (hpl : (backTo pos (starEach [.Name "Matter" p2] X.env)).any (·.1) = false) : wv X ro om (.Call (.Name "isinstance" p) [e, .Name "Matter" p2] [] pos) (.bl (decide (m.rank = 0))) := v_isM S B (.matter [] [] []) h A S.gM hg2 hg (by decide) he he2 hpl
theorem v_isChange (S : Sorts X.K X.mg) (B : Blt X.mg) (h : wv X ro om e (.obj a)) (A : m.At (ka X.K) om a q) (hg2 : Gl X "Change") (hg : Gl X "isinstance") (he : starEach (e :: [.Name "Change" p2]) X.env = (false, eval e X.env) :: starEach [.Name "Change" p2] X.env) (he2 : starEach [.Name "Change" p2] X.env = (false, eval (.Name "Change" p2) X.env) :: starEach [] X.env)
    (hpl : (backTo pos (starEach [.Name "Change" p2] X.env)).any (·.1) = false) : wv X ro om (.Call (.Name "isinstance" p) [e, .Name "Change" p2] [] pos) (.bl (decide (m.rank = 1))) := v_isM S B (.change (.cut 0)) h A S.gC hg2 hg (by decide) he he2 hpl
theorem v_isMend (S : Sorts X.K X.mg) (B : Blt X.mg) (h : wv X ro om e (.obj a)) (A : m.At (ka X.K) om a q) (hg2 : Gl X "Mend") (hg : Gl X "isinstance") (he : starEach (e :: [.Name "Mend" p2]) X.env = (false, eval e X.env) :: starEach [.Name "Mend" p2] X.env) (he2 : starEach [.Name "Mend" p2] X.env = (false, eval (.Name "Mend" p2) X.env) :: starEach [] X.env)
    (hpl : (backTo pos (starEach [.Name "Mend" p2] X.env)).any (·.1) = false) : wv X ro om (.Call (.Name "isinstance" p) [e, .Name "Mend" p2] [] pos) (.bl (decide (m.rank = 2))) := v_isM S B (.mend (.cut 0)) h A S.gE hg2 hg (by decide) he he2 hpl
theorem v_isPutOff (S : Sorts X.K X.mg) (B : Blt X.mg) (h : wv X ro om e (.obj a)) (A : m.At (ka X.K) om a q) (hg2 : Gl X "PutOff") (hg : Gl X "isinstance") (he : starEach (e :: [.Name "PutOff" p2]) X.env = (false, eval e X.env) :: starEach [.Name "PutOff" p2] X.env) (he2 : starEach [.Name "PutOff" p2] X.env = (false, eval (.Name "PutOff" p2) X.env) :: starEach [] X.env)
    (hpl : (backTo pos (starEach [.Name "PutOff" p2] X.env)).any (·.1) = false) : wv X ro om (.Call (.Name "isinstance" p) [e, .Name "PutOff" p2] [] pos) (.bl (decide (m.rank = 3))) := v_isM S B (.putOff 0) h A S.gP hg2 hg (by decide) he he2 hpl
theorem v_isClose (S : Sorts X.K X.mg) (B : Blt X.mg) (h : wv X ro om e (.obj a)) (A : m.At (ka X.K) om a q) (hg2 : Gl X "Close") (hg : Gl X "isinstance") (he : starEach (e :: [.Name "Close" p2]) X.env = (false, eval e X.env) :: starEach [.Name "Close" p2] X.env) (he2 : starEach [.Name "Close" p2] X.env = (false, eval (.Name "Close" p2) X.env) :: starEach [] X.env)
    (hpl : (backTo pos (starEach [.Name "Close" p2] X.env)).any (·.1) = false) : wv X ro om (.Call (.Name "isinstance" p) [e, .Name "Close" p2] [] pos) (.bl (decide (m.rank = 4))) := v_isM S B (.close) h A S.gO2 hg2 hg (by decide) he he2 hpl
theorem v_isLay (S : Sorts X.K X.mg) (B : Blt X.mg) (h : wv X ro om e (.obj a)) (A : m.At (ka X.K) om a q) (hg2 : Gl X "Lay") (hg : Gl X "isinstance") (he : starEach (e :: [.Name "Lay" p2]) X.env = (false, eval e X.env) :: starEach [.Name "Lay" p2] X.env) (he2 : starEach [.Name "Lay" p2] X.env = (false, eval (.Name "Lay" p2) X.env) :: starEach [] X.env)
    (hpl : (backTo pos (starEach [.Name "Lay" p2] X.env)).any (·.1) = false) : wv X ro om (.Call (.Name "isinstance" p) [e, .Name "Lay" p2] [] pos) (.bl (decide (m.rank = 5))) := v_isM S B (.lay) h A S.gL hg2 hg (by decide) he he2 hpl
theorem v_isRest (S : Sorts X.K X.mg) (B : Blt X.mg) (h : wv X ro om e (.obj a)) (A : m.At (ka X.K) om a q) (hg2 : Gl X "Rest") (hg : Gl X "isinstance") (he : starEach (e :: [.Name "Rest" p2]) X.env = (false, eval e X.env) :: starEach [.Name "Rest" p2] X.env) (he2 : starEach [.Name "Rest" p2] X.env = (false, eval (.Name "Rest" p2) X.env) :: starEach [] X.env)
    (hpl : (backTo pos (starEach [.Name "Rest" p2] X.env)).any (·.1) = false) : wv X ro om (.Call (.Name "isinstance" p) [e, .Name "Rest" p2] [] pos) (.bl (decide (m.rank = 6))) := v_isM S B (.rest) h A S.gR hg2 hg (by decide) he he2 hpl
theorem v_isPoint (S : Sorts X.K X.mg) (B : Blt X.mg) (h : wv X ro om e (.obj a)) (A : m.At (ka X.K) om a q) (hg2 : Gl X "Point") (hg : Gl X "isinstance") (he : starEach (e :: [.Name "Point" p2]) X.env = (false, eval e X.env) :: starEach [.Name "Point" p2] X.env) (he2 : starEach [.Name "Point" p2] X.env = (false, eval (.Name "Point" p2) X.env) :: starEach [] X.env)
    (hpl : (backTo pos (starEach [.Name "Point" p2] X.env)).any (·.1) = false) : wv X ro om (.Call (.Name "isinstance" p) [e, .Name "Point" p2] [] pos) (.bl (decide (m.rank = 7))) := v_isM S B (.point "") h A S.gT hg2 hg (by decide) he he2 hpl
end
local macro_rules | `(tactic| exact "v") => `(tactic| first | ((with_reducible apply v_isTop); assumption; assumption; (focus exact "v"); assumption; (focus exact "gl"); (focus exact "gl"); (focus exact "sd"); (focus exact "sd"); (focus exact "sd")) | ((with_reducible apply v_isMatter); assumption; assumption; (focus exact "v"); assumption; (focus exact "gl"); (focus exact "gl"); (focus exact "sd"); (focus exact "sd"); (focus exact "sd")) | ((with_reducible apply v_isChange); assumption; assumption; (focus exact "v"); assumption; (focus exact "gl"); (focus exact "gl"); (focus exact "sd"); (focus exact "sd"); (focus exact "sd")) | ((with_reducible apply v_isMend); assumption; assumption; (focus exact "v"); assumption; (focus exact "gl"); (focus exact "gl"); (focus exact "sd"); (focus exact "sd"); (focus exact "sd")) | ((with_reducible apply v_isPutOff); assumption; assumption; (focus exact "v"); assumption; (focus exact "gl"); (focus exact "gl"); (focus exact "sd"); (focus exact "sd"); (focus exact "sd")) | ((with_reducible apply v_isClose); assumption; assumption; (focus exact "v"); assumption; (focus exact "gl"); (focus exact "gl"); (focus exact "sd"); (focus exact "sd"); (focus exact "sd")) | ((with_reducible apply v_isLay); assumption; assumption; (focus exact "v"); assumption; (focus exact "gl"); (focus exact "gl"); (focus exact "sd"); (focus exact "sd"); (focus exact "sd")) | ((with_reducible apply v_isRest); assumption; assumption; (focus exact "v"); assumption; (focus exact "gl"); (focus exact "gl"); (focus exact "sd"); (focus exact "sd"); (focus exact "sd")) | ((with_reducible apply v_isPoint); assumption; assumption; (focus exact "v"); assumption; (focus exact "gl"); (focus exact "gl"); (focus exact "sd"); (focus exact "sd"); (focus exact "sd")))
def G_bar_of : Fs := fun ds om Q _ => ∃ x c as ms, ds = [x, .bl c] ∧ Piled (ka K) om x as ms ∧ Q (.int (barOf ms c)) om
theorem ok_bar_of (B : Blt mg) (M : Mots P w K mg base) (F : Df K d_bar_of f fd) : FnOk P w K mg base (L2.CX P w) 2 f fd ["pile", "closed"] (spD K 2 (G_bar_of (K := K))) := by
  refine def_ok' F sc_bar_of rfl N_bar_of rfl (by decide +kernel) ?_
  rintro X rfl rfl rfl rfl rfl ⟨nN, nd, sc, calm, fn, room, un, pass, stk, frm, exs⟩ ⟨⟨_, _⟩, ⟨_, _⟩, ⟨_, _⟩, _⟩ om ds Q Rr hl ⟨x, c, as, ms, rfl, pl, q⟩
  exact "st"
  have l := pl.l
  have hlen : (as.map D.obj).length = ms.length := by rw [List.length_map]; exact pl.len
  exact "asg"
  refine ws_seq (fun ro' om' => om' = om ∧ ro' = [some x, some (.bl c), some (.int (topRank ms))]) ?_ ?_
  · apply s_if
    · exact "t"
    · intro h
      have h : 0 < ((as.map D.obj).length : Int) := of_decide_eq_true h
      cases e : ms.getLast? with
      | none =>
        have := List.getLast?_eq_none_iff.mp e
        rw [hlen, this] at h
        simp at h
      | some m =>
        obtain ⟨a, q0, ha, A⟩ := pl.last e
        exact "asg"
        rw [← topRank_some e]
        exact ws_nil ⟨rfl, rfl⟩
    · intro h
      have h := of_decide_eq_false h
      have e : ms = [] := List.length_eq_zero_iff.mp (by omega)
      subst e
      exact ws_nil ⟨rfl, rfl⟩
  · rintro ro' om' ⟨rfl, rfl⟩
    unfold barOf at q
    generalize topRank ms = b at *
    apply st_when
    · exact "t"
    · intro h
      subst h
      have q : Q (.int (if 4 > b then 4 else b)) om' := q
      exact ret_v (by exact "v") q
    · intro h
      subst h
      have q : Q (.int b) om' := q
      exact ret_v (by exact "v") q
theorem pu_bar {om : Om} {x : D} {c : Bool} {as : List Addr} {ms : List Mt} (p : Piled (ka K) om x as ms) : Pu (G_bar_of (K := K)) om [x, .bl c] (.int (barOf ms c)) := .mk fun Q R q => ⟨x, c, as, ms, rfl, p, q⟩
local macro_rules | `(tactic| exact "pu") => `(tactic| (apply pu_bar; assumption))
--SEG
def G_fits : Fs := fun ds om Q _ => ∃ (x : D) (zs : List Str) (e : Ed), ds = [x, Ed.d e] ∧ Lr om x (zs.map .str) ∧ Q (.bl (Ed.fits zs.length e)) om
theorem ok_fits (B : Blt mg) (F : Df K d_fits f fd) : FnOk P w K mg base (L2.CX P w) 1 f fd ["things", "edit"] (spD K 2 G_fits) := by
  refine def_ok' F sc_fits rfl N_fits rfl (by decide +kernel) ?_
  rintro X rfl rfl rfl rfl rfl ⟨nN, nd, sc, calm, fn, room, un, pass, stk, frm, exs⟩ ⟨⟨_, _⟩, ⟨_, _⟩, _⟩ om ds Q Rr hl ⟨x, zs, e, rfl, l, q⟩
  exact "st"
  have hlen : (zs.map D.str).length = zs.length := List.length_map _
  cases e with
  | put a s =>
    unfold Ed.d
    apply st_yes
    · exact "t"
    · decide
    refine ret_v (d := .bl (decide (0 ≤ a) && decide (a ≤ ((zs.map D.str).length : Nat)))) (by exact "v") ?_
    rw [hlen]
    exact q
  | cut a =>
    unfold Ed.d
    apply st_no
    · exact "t"
    · decide
    refine ret_v (d := .bl (decide (0 ≤ a) && decide (a < ((zs.map D.str).length : Nat)))) (by exact "v") ?_
    rw [hlen]
    exact q
  | turn a s =>
    unfold Ed.d
    apply st_no
    · exact "t"
    · decide
    refine ret_v (d := .bl (decide (0 ≤ a) && decide (a < ((zs.map D.str).length : Nat)))) (by exact "v") ?_
    rw [hlen]
    exact q
theorem pu_fits {om : Om} {x : D} {zs : List Str} {e : Ed} (l : Lr om x (zs.map .str)) : Pu G_fits om [x, e.d] (.bl (Ed.fits zs.length e)) := .mk fun Q R q => ⟨x, zs, e, rfl, l, q⟩
local macro_rules | `(tactic| exact "pu") => `(tactic| ((with_reducible apply pu_fits); (focus exact "lr")))
def G_laid (CF : Addr) : Fs := fun ds om Q R => ∃ (x : D) (zs : List Str) (e : Ed), ds = [x, Ed.d e] ∧ Lr om x (zs.map .str) ∧ zs.length ≤ 1000000 ∧ (Ed.fits zs.length e = true → ∀ p, om p = none → Q (.obj p) (ups om p (.lst ((Ed.laid zs e).map .str)))) ∧ (Ed.fits zs.length e = false → R (.ref CF) [] om)
theorem ok_laid {CF : Addr} (B : Blt mg) (D1 : DefOk P w K mg base "fits" 1 2 G_fits) (xf : Xc0 K mg "NoFit" CF) (F : Df K d_laid f fd) : FnOk P w K mg base (L2.CX P w) 2 f fd ["things", "edit"] (spD K 2 (G_laid CF)) := by
  refine def_ok' F sc_laid rfl N_laid rfl (by decide +kernel) ?_
  rintro X rfl rfl rfl rfl rfl ⟨nN, nd, sc, calm, fn, room, un, pass, stk, frm, exs⟩ ⟨⟨_, _⟩, ⟨_, _⟩, ⟨_, _⟩, _⟩ om ds Q Rr hl ⟨x, zs, e, rfl, l, hz, q, qx⟩
  exact "st"
  have sz : sizeLine = 16777216 := sizeLine_eq
  have hlen : (zs.map D.str).length = zs.length := List.length_map _
  apply st_when
  · exact "t"
  · intro h
    have h : Ed.fits zs.length e = false := by simpa using h
    exact s_raise xf (qx h) calm (by exact "gl")
  intro h
  have h : Ed.fits zs.length e = true := by simpa using h
  have q := q h
  have ha := Ed.fits_at h
  cases e with
  | put a s =>
    unfold Ed.d
    simp only [Ed.at_] at ha
    exact "asg"
    apply st_yes
    · exact "t"
    · decide
    refine ret_n (ds := cut (zs.map D.str) none (some a) ++ [D.str s] ++ cut (zs.map D.str) (some a) none) ?_ ?_
    · have h1 : (cut (zs.map D.str) none (some a)).length ≤ zs.length := by rw [cut_to ha.1, List.length_take]; omega
      have h2 : (cut (zs.map D.str) (some a) none).length ≤ zs.length := by rw [cut_from ha.1, List.length_drop]; omega
      have h3 : (cut (zs.map D.str) none (some a)).length + [D.str s].length ≤ sizeLine := by rw [List.length_singleton]; omega
      (with_reducible apply n_add); exact "v"; exact "v"; exact "lr"; exact "lr"
      simp only [List.length_append, List.length_cons, List.length_nil]; omega
    · intro p hp
      have e1 : cut (zs.map D.str) none (some a) ++ [D.str s] ++ cut (zs.map D.str) (some a) none = (Ed.laid zs (.put a s)).map .str := by
        rw [cut_to ha.1, cut_from ha.1]
        simp [Ed.laid, List.map_take, List.map_drop]
      rw [e1]
      exact q p hp
  | cut a =>
    unfold Ed.d
    simp only [Ed.at_] at ha
    exact "asg"
    apply st_no
    · exact "t"
    · decide
    apply st_yes
    · exact "t"
    · decide
    refine ret_n (ds := cut (zs.map D.str) none (some a) ++ cut (zs.map D.str) (some (a + 1)) none) ?_ ?_
    · have h1 : (cut (zs.map D.str) none (some a)).length ≤ zs.length := by rw [cut_to ha.1, List.length_take]; omega
      have h2 : (cut (zs.map D.str) (some (a + 1)) none).length ≤ zs.length := by rw [cut_from (by omega), List.length_drop]; omega
      (with_reducible apply n_add); exact "v"; exact "v"; exact "lr"; exact "lr"
      omega
    · intro p hp
      have e1 : cut (zs.map D.str) none (some a) ++ cut (zs.map D.str) (some (a + 1)) none = (Ed.laid zs (.cut a)).map .str := by
        rw [cut_to ha.1, cut_from (by omega), show (a + 1).toNat = a.toNat + 1 by omega]
        simp [Ed.laid, List.map_take, List.map_drop]
      rw [e1]
      exact q p hp
  | turn a s =>
    unfold Ed.d
    simp only [Ed.at_] at ha
    exact "asg"
    apply st_no
    · exact "t"
    · decide
    apply st_no
    · exact "t"
    · decide
    refine ret_n (ds := cut (zs.map D.str) none (some a) ++ [D.str s] ++ cut (zs.map D.str) (some (a + 1)) none) ?_ ?_
    · have h1 : (cut (zs.map D.str) none (some a)).length ≤ zs.length := by rw [cut_to ha.1, List.length_take]; omega
      have h2 : (cut (zs.map D.str) (some (a + 1)) none).length ≤ zs.length := by rw [cut_from (by omega), List.length_drop]; omega
      have h3 : (cut (zs.map D.str) none (some a)).length + [D.str s].length ≤ sizeLine := by rw [List.length_singleton]; omega
      (with_reducible apply n_add); exact "v"; exact "v"; exact "lr"; exact "lr"
      simp only [List.length_append, List.length_cons, List.length_nil]; omega
    · intro p hp
      have e1 : cut (zs.map D.str) none (some a) ++ [D.str s] ++ cut (zs.map D.str) (some (a + 1)) none = (Ed.laid zs (.turn a s)).map .str := by
        rw [cut_to ha.1, cut_from (by omega), show (a + 1).toNat = a.toNat + 1 by omega]
        simp [Ed.laid, List.map_take, List.map_drop]
      rw [e1]
      exact q p hp
theorem pn_laid {CF : Addr} {om : Om} {x : D} {zs : List Str} {e : Ed} (l : Lr om x (zs.map .str)) (hz : zs.length ≤ 1000000) (h : Ed.fits zs.length e = true) : Pn (G_laid CF) om [x, e.d] ((Ed.laid zs e).map .str) := .mk fun Q R q => ⟨x, zs, e, rfl, l, hz, fun _ => q, fun z => by rw [h] at z; cases z⟩
local macro_rules | `(tactic| exact "pn") => `(tactic| ((with_reducible apply pn_laid); (focus exact "lr"); omega; assumption))
def G_words_of : Fs := fun ds om Q _ => ∃ s, ds = [.str s] ∧ s.length + 2 ≤ sizeLine ∧ ∀ p, om p = none → Q (.obj p) (ups om p (.lst ((wordsC s).map .str)))
theorem ok_words_of (B : Blt mg) (F : Df K d_words_of f fd) : FnOk P w K mg base (L2.CX P w) 1 f fd ["clause"] (spD K 1 G_words_of) := by
  refine def_ok' F sc_words_of rfl N_words_of rfl (by decide +kernel) ?_
  rintro X rfl rfl rfl rfl rfl ⟨nN, nd, sc, calm, fn, room, un, pass, stk, frm, exs⟩ ⟨⟨_, _⟩, _⟩ om ds Q Rr hl ⟨s, rfl, hz, q⟩
  exact "st"
  apply st_when
  · exact "t"
  · intro h
    rw [wordsC, if_pos (of_decide_eq_true h)] at q
    refine ret_n (ds := []) ?_ q
    exact "n"
  · intro h
    rw [wordsC, if_neg (of_decide_eq_false h)] at q
    refine ret_n ?_ q
    exact "n"
def G_clause_of : Fs := fun ds om Q _ => ∃ x ws, ds = [x] ∧ Lr om x (ws.map .str) ∧ (ws.map (·.length)).sum + ws.length ≤ 16777216 ∧ Q (.str (clauseC ws)) om
theorem ok_clause_of (B : Blt mg) (F : Df K d_clause_of f fd) : FnOk P w K mg base (L2.CX P w) 1 f fd ["words"] (spD K 1 G_clause_of) := by
  refine def_ok' F sc_clause_of rfl N_clause_of rfl (by decide +kernel) ?_
  rintro X rfl rfl rfl rfl rfl ⟨nN, nd, sc, calm, fn, room, un, pass, stk, frm, exs⟩ ⟨⟨_, _⟩, _⟩ om ds Q Rr hl ⟨x, ws, rfl, l, hz, q⟩
  exact "st"
  refine ret_v ?_ q
  exact v_joinS (by exact "v") l hz rfl rfl rfl
theorem pu_clause {om : Om} {x : D} {ws : List Str} (l : Lr om x (ws.map .str)) (h : (ws.map (·.length)).sum + ws.length ≤ 16777216) : Pu G_clause_of om [x] (.str (clauseC ws)) := .mk fun Q R q => ⟨x, ws, rfl, l, h, q⟩
theorem pn_words {om : Om} {s : Str} (h : s.length + 2 ≤ sizeLine) : Pn G_words_of om [.str s] ((wordsC s).map .str) := .mk fun Q R q => ⟨s, rfl, h, q⟩
local macro_rules | `(tactic| exact "pu") => `(tactic| ((with_reducible apply pu_clause); (focus exact "lr"); (focus exact "ar")))
local macro_rules | `(tactic| exact "pn") => `(tactic| ((with_reducible apply pn_words); (focus exact "ar")))
--SEG
def G_is_mendable : Fs := fun ds om Q _ => ∃ a q m, ds = [.obj a] ∧ Mt.At (ka K) om a q m ∧ Q (.bl m.mendable) om
theorem ok_is_mendable (B : Blt mg) (S : Sorts K mg) (Ae : Att K (ka K).C "edit") (F : Df K d_is_mendable f fd) : FnOk P w K mg base (L2.CX P w) 1 f fd ["motion"] (spD K 1 (G_is_mendable (K := K))) := by
  refine def_ok' F sc_is_mendable rfl N_is_mendable rfl (by decide +kernel) ?_
  rintro X rfl rfl rfl rfl rfl ⟨nN, nd, sc, calm, fn, room, un, pass, stk, frm, exs⟩ ⟨⟨_, _⟩, _⟩ om ds Q Rr hl ⟨a, q0, m, rfl, A, q⟩
  exact "st"
  by_cases h1 : m.rank = 1
  · obtain ⟨e, rfl⟩ : ∃ e, m = .change e := by
      clear A q
      cases m <;> simp [Mt.rank, Mt.td, Td.rank] at h1 ⊢
    refine ret_v (d := .bl (decide ((Mt.change e).rank = 1) && !decide (e.kd = "cut"))) ?_ ?_
    · (with_reducible apply v_and)
      · exact "v"
      · intro _
        (with_reducible apply v_bool1)
        (with_reducible apply v_cmp)
        · (with_reducible apply v_ix)
          · (with_reducible apply v_fld)
            · exact "v"
            · exact A.o
            · exact Ae
            · rfl
            · exact "sd"
          · exact "v"
          · exact "ix"
          · exact un_1 un
          · exact "sd"
        · exact "v"
        · exact "cm"
        · exact "sd"
    · have e2 : (decide ((Mt.change e).rank = 1) && !decide (e.kd = "cut")) = (Mt.change e).mendable := by
        cases e <;> rfl
      rw [e2]
      exact q
  · refine ret_v (d := .bl (decide (m.rank = 1) && false)) ?_ ?_
    · (with_reducible apply v_and)
      · exact "v"
      · intro z
        exact absurd (of_decide_eq_true z) h1
    · have e2 : (decide (m.rank = 1) && false) = m.mendable := by
        clear A q
        cases m <;> first | rfl | (exact absurd rfl h1)
      rw [e2]
      exact q
theorem pu_mend {om : Om} {a q : Addr} {m : Mt} (A : m.At (ka K) om a q) : Pu (G_is_mendable (K := K)) om [.obj a] (.bl m.mendable) := .mk fun Q R k => ⟨a, q, m, rfl, A, k⟩
local macro_rules | `(tactic| exact "pu") => `(tactic| (apply pu_mend; assumption))
def G_show_text : Fs := fun ds om Q _ => ∃ x t, ds = [x] ∧ Lr om x (List.map .str t) ∧ (t.map (·.length)).sum + t.length ≤ 1000000 ∧ ∀ p, om p = none → Q (.obj p) (ups om p (.lst ((textWs t).map .str)))
theorem ok_show_text (B : Blt mg) (D1 : DefOk P w K mg base "words_of" 1 1 G_words_of) (F : Df K d_show_text f fd) : FnOk P w K mg base (L2.CX P w) 2 f fd ["text"] (spD K 1 G_show_text) := by
  refine def_ok' F sc_show_text rfl N_show_text rfl (by decide +kernel) ?_
  rintro X rfl rfl rfl rfl rfl ⟨nN, nd, sc, calm, fn, room, un, pass, stk, frm, exs⟩ ⟨⟨_, _⟩, ⟨_, _⟩, ⟨_, _⟩, _⟩ om ds Q Rr hl ⟨x, t, rfl, l, hz, q⟩
  exact "st"
  have sz : sizeLine = 16777216 := sizeLine_eq
  exact "new"
  rename_i p hp
  have l2 : ∀ u, Lr (ups om p u) x (t.map .str) := fun u => l.elim .inl fun ⟨a, ea, ha⟩ => .inr ⟨a, ea, ups_keep ha hp⟩
  have l20 := l2 (.lst [])
  have hts : ∀ i, ((textWs (t.take i)).map (·.length)).sum + (textWs (t.take i)).length ≤ 4000000 := fun i => by
    have h1 := textWs_size (t.take i)
    have h2 : (t.take i).length ≤ t.length := by rw [List.length_take]; omega
    have h3 : ((t.take i).map (·.length)).sum ≤ (t.map (·.length)).sum := by
      conv => rhs; rw [← List.take_append_drop i t, List.map_append, List.sum_append]
      exact Nat.le_add_right _ _
    omega
  apply st_for (g := gName 2) (U := fun d ro => ro.set 2 (some d)) (I := fun i ro' om' => om' = ups om p (.lst ((textWs (t.take i)).map .str)) ∧ ∃ a, ro' = [some x, some (.obj p), a])
  exact "fo"
  case hi =>
    apply it_L
    · exact "v"
    · exact l20
  case h0 => exact ⟨rfl, _, rfl⟩
  case hP =>
    rintro i ro' om' ⟨rfl, _, rfl⟩
    exact l2 _
  case hd =>
    rintro ro' om' ⟨rfl, _, rfl⟩
    rw [List.length_map, List.take_length]
    exact ret_v (by exact "v") (q p hp)
  case hs =>
    rintro i d ro' om' hi ⟨rfl, a, rfl⟩
    obtain ⟨c, hc, rfl⟩ := map_item hi
    have hlt := (List.getElem?_eq_some_iff.mp hc).1
    have htk : t.take (i + 1) = t.take i ++ [c] := by rw [List.take_succ_eq_append_getElem hlt, (List.getElem?_eq_some_iff.mp hc).2]
    have h1 := hts i
    have h2 := hts (i + 1)
    have hcl : c.length ≤ 1000000 := by
      have : c.length ≤ (t.map (·.length)).sum := le_sum (List.mem_map.mpr ⟨c, List.mem_of_getElem? hc, rfl⟩)
      omega
    rw [htk, textWs_snoc, List.length_append] at h2
    have hap : ((textWs (t.take i)).map D.str).length < sizeLine := by rw [List.length_map]; omega
    exact "ro"
    exact "app"
    refine st_extend (p := p) (ds := (textWs (t.take i)).map .str ++ [.str "/"]) (y := .lst ((wordsC c).map .str)) (es' := (wordsC c).map .str) ?_ ?_ ups_same Lr.im ?_ ?_
    · exact "v"
    · exact "v"
    · rw [List.length_append, List.length_map, List.length_map, sz]
      simp only [List.length_cons, List.length_nil] at h2 ⊢
      omega
    rw [ups_ups]
    refine ws_nil ⟨?_, _, rfl⟩
    rw [htk, textWs_snoc, List.map_append, List.map_cons, List.append_assoc]
    rfl
theorem pn_show_text {om : Om} {x : D} {t : List Str} (l : Lr om x (t.map .str)) (h : (t.map (·.length)).sum + t.length ≤ 1000000) : Pn G_show_text om [x] ((textWs t).map .str) := .mk fun Q R q => ⟨x, t, rfl, l, h, q⟩
local macro_rules | `(tactic| exact "pn") => `(tactic| ((with_reducible apply pn_show_text); (focus exact "lr"); assumption))
def G_show_edit : Fs := fun ds om Q _ => ∃ e, ds = [Ed.d e] ∧ smE e ∧ ∀ p, om p = none → Q (.obj p) (ups om p (.lst ((edWs e).map .str)))
theorem ok_show_edit (B : Blt mg) (D1 : DefOk P w K mg base "words_of" 1 1 G_words_of) (F : Df K d_show_edit f fd) : FnOk P w K mg base (L2.CX P w) 2 f fd ["edit"] (spD K 1 G_show_edit) := by
  refine def_ok' F sc_show_edit rfl N_show_edit rfl (by decide +kernel) ?_
  rintro X rfl rfl rfl rfl rfl ⟨nN, nd, sc, calm, fn, room, un, pass, stk, frm, exs⟩ ⟨⟨_, _⟩, ⟨_, _⟩, _⟩ om ds Q Rr hl ⟨e, rfl, hs, q⟩
  exact "st"
  have sz : sizeLine = 16777216 := sizeLine_eq
  have hl1 := smI.log hs.1
  have hth := hs.2
  exact "new"
  rename_i p hp
  have fin : ∀ {ss : List Str}, edWs e = ss → ws X (deOf Q Rr) [some e.d, some (.obj p)] (ups om p (.lst (ss.map .str))) [.Return (some (.Name "words" ⟨0, 0, 0, 0⟩)) ⟨0, 0, 0, 0⟩] → True := fun _ _ => trivial
  clear fin
  by_cases hk : e.kd = "cut"
  · apply st_no
    · exact "t"
    · rw [decide_eq_true hk]; rfl
    have ee : edWs e = [e.kd, strI e.at_] := by
      cases e with
      | cut a => rfl
      | put a s => exact absurd hk (show ¬ (("put" : Str) = "cut") by decide)
      | turn a s => exact absurd hk (show ¬ (("turn" : Str) = "cut") by decide)
    rw [ee] at q
    exact ret_v (by exact "v") (q p hp)
  · apply st_yes
    · exact "t"
    · rw [decide_eq_false hk]; rfl
    have e2 : Ix X (ups om p (.lst [.str e.kd, .str (strI e.at_)])) e.d (.int 2) (.str e.th) := by
      rw [Ed.d_eq, Ed.tl_th hk]
      exact ix_T at_2
    have ee : edWs e = e.kd :: strI e.at_ :: wordsC e.th := by
      cases e with
      | cut a => exact absurd rfl hk
      | put a s => rfl
      | turn a s => rfl
    have h5 := wordsC_size e.th
    refine st_extend (p := p) (ds := [.str e.kd, .str (strI e.at_)]) (y := .lst ((wordsC e.th).map .str)) (es' := (wordsC e.th).map .str) ?_ ?_ ups_same Lr.im ?_ ?_
    · exact "v"
    · exact "v"
    · rw [List.length_map, sz]
      show 2 + _ ≤ _
      omega
    rw [ups_ups]
    refine ws_nil ?_
    rw [ee] at q
    exact ret_v (by exact "v") (q p hp)
theorem pn_show_edit {om : Om} {e : Ed} (h : smE e) : Pn G_show_edit om [e.d] ((edWs e).map .str) := .mk fun Q R q => ⟨e, rfl, h, q⟩
local macro_rules | `(tactic| exact "pn") => `(tactic| ((with_reducible apply pn_show_edit); assumption))
/-- a deed of a word and numbers alone -/
def plainWs : Dd → Option (Str × List Int)
  | .mv (.putOff n) => some ("put off", [n])
  | .mv .close => some ("close", [])
  | .mv .lay => some ("lay", [])
  | .mv .rest => some ("rest", [])
  | .vote a n => some ("vote", [a, n])
  | .drop => some ("drop", [])
  | .take k => some ("take", [k])
  | _ => none
def G_show_deed : Fs := fun ds om Q _ => ∃ x e, ds = [x] ∧ DdAt om x e ∧ smD e ∧ Q (.str (showD e)) om
theorem ok_show_deed (B : Blt mg) (D1 : DefOk P w K mg base "words_of" 1 1 G_words_of) (D2 : DefOk P w K mg base "show_text" 2 1 G_show_text) (D3 : DefOk P w K mg base "show_edit" 2 1 G_show_edit) (F : Df K d_show_deed f fd) : FnOk P w K mg base (L2.CX P w) 3 f fd ["deed"] (spD K 1 G_show_deed) := by
  refine def_ok' F sc_show_deed rfl (N_show_deed.take 1) rfl (by decide +kernel) ?_
  rintro X rfl rfl rfl rfl rfl ⟨nN, nd, sc, calm, fn, room, un, pass, stk, frm, exs⟩ ⟨⟨n0, _⟩, _⟩ om ds Q Rr hl ⟨x, e, rfl, hx, hs, q⟩
  exact "st"
  have sz : sizeLine = 16777216 := sizeLine_eq
  have nk : X.N[1]? = some ("number" : Str) := by rw [nN]; rfl
  unfold showD at q
  cases hp : plainWs e with
  | none =>
    match e, hp with
    | .mv (.matter t), _ =>
      obtain ⟨y, rfl, ly⟩ := hx
      have hz : (t.map (·.length)).sum + t.length ≤ 1000000 := hs
      have h1 := textWs_size t
      have hadd : [D.str "matter"].length + ((textWs t).map D.str).length ≤ sizeLine := by rw [List.length_map, sz]; show 1 + _ ≤ _; omega
      apply st_yes
      · exact "t"
      · decide
      refine ret_v (d := .str (clauseC (("matter" : Str) :: textWs t))) ?_ q
      refine v_joinS (y := .lst ((("matter" : Str) :: textWs t).map .str)) ?_ Lr.im ?_ rfl rfl rfl
      · (with_reducible apply wn.v)
        show wn X _ _ _ ([D.str "matter"] ++ (textWs t).map .str)
        (with_reducible apply n_add)
        · exact "v"
        · exact "v"
        · exact "lr"
        · exact "lr"
        · exact hadd
      · have l1 : ("matter" : Str).length = 6 := by decide +kernel
        rw [List.map_cons, List.sum_cons, List.length_cons, l1]
        omega
    | .mv (.change ed), _ =>
      cases hx
      have hs : smE ed := hs
      have h1 := edWs_size hs
      have hadd : [D.str "change"].length + ((edWs ed).map D.str).length ≤ sizeLine := by rw [List.length_map, sz]; show 1 + _ ≤ _; omega
      unfold Td.d
      apply st_no
      · exact "t"
      · decide
      apply st_yes
      · exact "t"
      · simp [eqv_str]
      refine ret_v (d := .str (clauseC (("change" : Str) :: edWs ed))) ?_ q
      refine v_joinS (y := .lst ((("change" : Str) :: edWs ed).map .str)) ?_ Lr.im ?_ rfl rfl rfl
      · (with_reducible apply wn.v)
        show wn X _ _ _ ([D.str "change"] ++ (edWs ed).map .str)
        (with_reducible apply n_add)
        · exact "v"
        · exact "v"
        · exact "lr"
        · exact "lr"
        · exact hadd
      · have l1 : ("change" : Str).length = 6 := by decide +kernel
        rw [List.map_cons, List.sum_cons, List.length_cons, l1]
        omega
    | .mv (.mend ed), _ =>
      cases hx
      have hs : smE ed := hs
      have h1 := edWs_size hs
      have hadd : [D.str "mend"].length + ((edWs ed).map D.str).length ≤ sizeLine := by rw [List.length_map, sz]; show 1 + _ ≤ _; omega
      unfold Td.d
      apply st_no
      · exact "t"
      · decide
      apply st_yes
      · exact "t"
      · simp [eqv_str]
      refine ret_v (d := .str (clauseC (("mend" : Str) :: edWs ed))) ?_ q
      refine v_joinS (y := .lst ((("mend" : Str) :: edWs ed).map .str)) ?_ Lr.im ?_ rfl rfl rfl
      · (with_reducible apply wn.v)
        show wn X _ _ _ ([D.str "mend"] ++ (edWs ed).map .str)
        (with_reducible apply n_add)
        · exact "v"
        · exact "v"
        · exact "lr"
        · exact "lr"
        · exact hadd
      · have l1 : ("mend" : Str).length = 4 := by decide +kernel
        rw [List.map_cons, List.sum_cons, List.length_cons, l1]
        omega
    | .mv (.point s), _ =>
      cases hx
      have hs : s.length ≤ 100000 := hs
      have h1 := wordsC_size s
      have hadd : [D.str "point"].length + ((wordsC s).map D.str).length ≤ sizeLine := by rw [List.length_map, sz]; show 1 + _ ≤ _; omega
      unfold Td.d
      apply st_no
      · exact "t"
      · decide
      apply st_no
      · exact "t"
      · simp only [List.any_cons, List.any_nil, eqv_str]
        decide
      apply st_yes
      · exact "t"
      · decide
      refine ret_v (d := .str (clauseC (("point" : Str) :: wordsC s))) ?_ q
      refine v_joinS (y := .lst ((("point" : Str) :: wordsC s).map .str)) ?_ Lr.im ?_ rfl rfl rfl
      · (with_reducible apply wn.v)
        show wn X _ _ _ ([D.str "point"] ++ (wordsC s).map .str)
        (with_reducible apply n_add)
        · exact "v"
        · exact "v"
        · exact "lr"
        · exact "lr"
        · exact hadd
      · have l1 : ("point" : Str).length = 5 := by decide +kernel
        rw [List.map_cons, List.sum_cons, List.length_cons, l1]
        omega
  | some z =>
    obtain ⟨k, ns⟩ := z
    obtain ⟨ex, ew, hsm, hk⟩ : x = .tup (.str k :: ns.map .int) ∧ e.ws = k :: ns.map strI ∧ (∀ n ∈ ns, smI n) ∧ k ∈ (["put off", "close", "lay", "rest", "vote", "drop", "take"] : List Str) ∧ ns.length ≤ 2 := by
      cases e with
      | mv t =>
        cases t <;> cases hp
        · exact ⟨hx, rfl, (fun n hn => by rw [List.mem_singleton.mp hn]; exact hs), by simp, by simp⟩
        · exact ⟨hx, rfl, (fun n hn => by cases hn), by simp, by simp⟩
        · exact ⟨hx, rfl, (fun n hn => by cases hn), by simp, by simp⟩
        · exact ⟨hx, rfl, (fun n hn => by cases hn), by simp, by simp⟩
      | vote a n =>
        cases hp
        refine ⟨hx, rfl, fun n hn => ?_, by simp, Nat.le_refl _⟩
        simp only [List.mem_cons, List.not_mem_nil, or_false] at hn
        rcases hn with rfl | rfl
        · exact hs.1
        · exact hs.2
      | drop => cases hp; exact ⟨hx, rfl, (fun n hn => by cases hn), by simp, by simp⟩
      | take k => cases hp; exact ⟨hx, rfl, (fun n hn => by rw [List.mem_singleton.mp hn]; exact hs), by simp, by simp⟩
    obtain ⟨hk, hnl⟩ := hk
    subst ex
    rw [ew] at q
    have hkl : k.length ≤ 7 ∧ k ≠ "matter" ∧ k ≠ "change" ∧ k ≠ "mend" ∧ k ≠ "point" := by
      have h7 : ∀ k ∈ (["put off", "close", "lay", "rest", "vote", "drop", "take"] : List Str), k.length ≤ 7 ∧ k ≠ "matter" ∧ k ≠ "change" ∧ k ≠ "mend" ∧ k ≠ "point" := by decide +kernel
      exact h7 k hk
    have hc : cut (D.str k :: ns.map D.int) (some 1) none = ns.map D.int := by rw [cut_from (by decide)]; rfl
    apply st_no
    · exact "t"
    · exact decide_eq_false hkl.2.1
    apply st_no
    · exact "t"
    · simp only [List.any_cons, List.any_nil, eqv_str, Bool.or_false, Bool.or_eq_false_iff, decide_eq_false_iff_not]
      exact ⟨fun z => hkl.2.2.1 z.symm, fun z => hkl.2.2.2.1 z.symm⟩
    apply st_no
    · exact "t"
    · exact decide_eq_false hkl.2.2.2.2
    have hsum : ((ns.map strI).map (·.length)).sum + (ns.map strI).length ≤ 26 := by
      have := sum_le (f := fun s : Str => s.length) (m := 12) (l := ns.map strI) fun s hs => by
        obtain ⟨n, hn, rfl⟩ := List.mem_map.mp hs
        exact strI_len (hsm n hn)
      rw [List.length_map] at this ⊢
      omega
    refine ret_v (d := .str (clauseC (k :: ns.map strI))) ?_ q
    refine v_joinS (y := .lst ((k :: ns.map strI).map .str)) ?_ Lr.im ?_ rfl rfl rfl
    · (with_reducible apply wn.v)
      show wn X _ _ _ ([D.str k] ++ (ns.map strI).map .str)
      refine n_add (x := .lst [.str k]) (y := .lst ((ns.map strI).map .str)) ?_ ?_ Lr.im Lr.im ?_
      · exact "v"
      · (with_reducible apply wn.v)
        rw [List.map_map]
        refine n_lcM (f := .int) (xs := ns) (Pm := fun _ => True) 1 nN sc nd calm (by decide +kernel) (by decide +kernel) (it_T ?_) (fun _ _ => trivial) (by omega) ?_
        · refine wv_is (d := .tup (cut (D.str k :: ns.map D.int) (some 1) none)) ?_ (by rw [hc])
          refine v_sl (x := .tup (.str k :: ns.map .int)) ?_ ?_ ?_ (s_T ?_)
          · exact "v"
          · exact "po"
          · exact "po"
          · rintro ⟨z, _⟩
            rw [show HT.sIx (D.str k :: ns.map D.int).length 0 (some 1) = min 1 (D.str k :: ns.map D.int).length from HT.sIx_nat _ 0 1] at z
            simp only [List.length_cons] at z
            omega
        · intro j n hn s H C cl fp om' _
          have hlog := smI.log (hsm n (List.mem_of_getElem? hn))
          show wv _ _ _ _ (.str (strI n))
          exact "v"
      · rw [List.length_map, List.length_map, sz]
        show 1 + _ ≤ _
        omega
    · rw [List.map_cons, List.sum_cons, List.length_cons]
      omega
theorem pu_show {om : Om} {x : D} {e : Dd} (h : DdAt om x e) (hs : smD e) : Pu G_show_deed om [x] (.str (showD e)) := .mk fun Q R q => ⟨x, e, rfl, h, hs, q⟩
--SEG
abbrev kC (K : PySem.W.Frag) : Addr := He.ga K "Chamber"
structure ChA (K : PySem.W.Frag) : Prop where
  seats : Att K (kC K) "seats"
  sitting : Att K (kC K) "sitting"
  closed : Att K (kC K) "closed"
  motions : Att K (kC K) "motions"
  pile : Att K (kC K) "pile"
  aside : Att K (kC K) "aside"
  decided : Att K (kC K) "decided"
  rows : Att K (kC K) "rows"
local macro_rules | `(tactic| exact "fld") => `(tactic| ((with_reducible apply v_fld); (focus exact "v"); (focus assumption); (focus assumption); (focus rfl); (focus exact "sd")))
local macro_rules | `(tactic| exact "v") => `(tactic| exact "fld")
local macro_rules | `(tactic| exact "cm") => `(tactic| first | ((with_reducible apply c_eqNil); exact un_64 (by assumption); assumption) | ((with_reducible apply c_neNil); exact un_64 (by assumption); assumption))
local macro_rules | `(tactic| exact "v") => `(tactic| ((with_reducible apply v_meth0); (focus exact "v"); (focus assumption); (focus rfl); (focus assumption); (focus exact Room.mono (by assumption) (by decide)); (focus assumption); (focus rfl)))
local macro_rules | `(tactic| exact "n") => `(tactic| ((with_reducible apply n_meth0); (focus exact "v"); (focus assumption); (focus rfl); (focus assumption); (focus exact Room.mono (by assumption) (by decide)); (focus assumption); (focus rfl)))
def onD (L : La) (s : ChSt) : List D := s.pile.map fun i => .obj (L (.m i))
def G_Chamber_on_pile : Fs := fun ds om Q _ => ∃ L s, ds = [.obj (L .c)] ∧ Ch (ka K) (kC K) L s om ∧ Fit s ∧ ∀ p, om p = none → Q (.obj p) (ups om p (.lst (onD L s)))
theorem ok_Chamber_on_pile (B : Blt mg) (A : ChA K) (F : Df K d_Chamber_on_pile f fd) : FnOk P w K mg base (L2.CX P w) 1 f fd ["self"] (spD K 1 (G_Chamber_on_pile (K := K))) := by
  refine def_ok' F sc_Chamber_on_pile rfl (N_Chamber_on_pile.take 1) rfl (by decide +kernel) ?_
  rintro X rfl rfl rfl rfl rfl ⟨nN, nd, sc, calm, fn, room, un, pass, stk, frm, exs⟩ ⟨⟨_, _⟩, _⟩ om ds Q Rr hl ⟨L, s, rfl, ch, ft, q⟩
  exact "st"
  have nk : X.N[1]? = some ("number" : Str) := by rw [nN]; rfl
  have hc := ch.hc
  have hpi := ch.hpi
  have hmo := ch.hmo
  have a1 := A.motions
  have a2 := A.pile
  refine ret_n (ds := onD L s) ?_ q
  refine n_lcM (f := num) (g := fun i => .obj (L (.m i))) (xs := s.pile) (Pm := fun om2 => Lr om2 (.obj (L .pi)) (nums s.pile)) 1 nN sc nd calm (by decide +kernel) (by decide +kernel) ?_ (fun om5 E => .inr ⟨_, rfl, E _ _ hpi⟩) (by have := ft.pn; omega) ?_
  · exact it_L (by exact "v") (Lr.ob hpi)
  · intro j i hi s0 H C cl fp om5 hE
    have hc5 := hE _ _ hc
    have hmo5 := hE _ _ hmo
    have hat := at_mo (L := L) (ft.pl i (List.mem_of_getElem? hi))
    exact "v"
theorem pn_on {om : Om} {L : La} {s : ChSt} (ch : Ch (ka K) (kC K) L s om) (ft : Fit s) : Pn (G_Chamber_on_pile (K := K)) om [.obj (L .c)] (onD L s) := .mk fun Q R q => ⟨L, s, rfl, ch, ft, q⟩
theorem piled_on {om : Om} {L : La} {s : ChSt} (ch : Ch (ka K) (kC K) L s om) (ft : Fit s) : Piled (ka K) om (.lst (onD L s)) (s.pile.map fun i => L (.m i)) s.on := by
  refine ⟨.inl (by unfold onD; rw [List.map_map]; rfl), by unfold ChSt.on; rw [List.length_map, List.length_map], fun i a m h1 h2 => ?_⟩
  rw [List.getElem?_map] at h1
  unfold ChSt.on at h2
  rw [List.getElem?_map] at h2
  cases e : s.pile[i]? with
  | none => rw [e] at h1; cases h1
  | some j =>
    rw [e] at h1 h2
    cases h1
    cases h2
    exact ⟨_, ch.hm (ft.pl j (List.mem_of_getElem? e))⟩
def G_Chamber_bar_now : Fs := fun ds om Q _ => ∃ L s, ds = [.obj (L .c)] ∧ Ch (ka K) (kC K) L s om ∧ Fit s ∧ Q (.int s.bar) om
theorem ok_Chamber_bar_now (B : Blt mg) (A : ChA K) (D1 : DefOk P w K mg base "bar_of" 2 2 (G_bar_of (K := K))) (M1 : MethOk P w K mg base (kC K) "on_pile" 1 1 (G_Chamber_on_pile (K := K))) (F : Df K d_Chamber_bar_now f fd) : FnOk P w K mg base (L2.CX P w) 3 f fd ["self"] (spD K 1 (G_Chamber_bar_now (K := K))) := by
  refine def_ok' F sc_Chamber_bar_now rfl N_Chamber_bar_now rfl (by decide +kernel) ?_
  rintro X rfl rfl rfl rfl rfl ⟨nN, nd, sc, calm, fn, room, un, pass, stk, frm, exs⟩ ⟨⟨_, _⟩, _⟩ om ds Q Rr hl ⟨L, s, rfl, ch, ft, q⟩
  exact "st"
  have hc := ch.hc
  have a1 := A.closed
  have pn1 := pn_on ch ft
  have pl1 := piled_on ch ft
  exact ret_v (by exact "v") q
theorem pu_barn {om : Om} {L : La} {s : ChSt} (ch : Ch (ka K) (kC K) L s om) (ft : Fit s) : Pu (G_Chamber_bar_now (K := K)) om [.obj (L .c)] (.int s.bar) := .mk fun Q R q => ⟨L, s, rfl, ch, ft, q⟩
def topD (L : La) (s : ChSt) : D := match s.pile.getLast? with
  | none => .non
  | some i => .obj (L (.m i))
def G_Chamber_top : Fs := fun ds om Q _ => ∃ L s, ds = [.obj (L .c)] ∧ Ch (ka K) (kC K) L s om ∧ Fit s ∧ Q (topD L s) om
theorem ok_Chamber_top (B : Blt mg) (A : ChA K) (F : Df K d_Chamber_top f fd) : FnOk P w K mg base (L2.CX P w) 1 f fd ["self"] (spD K 1 (G_Chamber_top (K := K))) := by
  refine def_ok' F sc_Chamber_top rfl N_Chamber_top rfl (by decide +kernel) ?_
  rintro X rfl rfl rfl rfl rfl ⟨nN, nd, sc, calm, fn, room, un, pass, stk, frm, exs⟩ ⟨⟨_, _⟩, _⟩ om ds Q Rr hl ⟨L, s, rfl, ch, ft, q⟩
  exact "st"
  have hc := ch.hc
  have hpi := ch.hpi
  have hmo := ch.hmo
  have a1 := A.motions
  have a2 := A.pile
  unfold topD at q
  apply st_when
  · exact "t"
  · intro h
    have e : s.pile = [] := of_decide_eq_true h
    have q : Q .non om := by rw [e] at q; exact q
    exact ret_v (by exact "v") q
  · intro h
    have e : s.pile ≠ [] := of_decide_eq_false h
    cases hg : s.pile.getLast? with
    | none => exact absurd (List.getLast?_eq_none_iff.mp hg) e
    | some i =>
      rw [hg] at q
      have hp := last_of hg
      have hat1 : atI (nums s.pile) (-1) = some (num i) := by rw [hp]; exact at_num
      have hat := at_mo (L := L) (ft.pl i (List.mem_of_getLast? hg))
      exact ret_v (by exact "v") q
theorem pu_top {om : Om} {L : La} {s : ChSt} (ch : Ch (ka K) (kC K) L s om) (ft : Fit s) : Pu (G_Chamber_top (K := K)) om [.obj (L .c)] (topD L s) := .mk fun Q R q => ⟨L, s, rfl, ch, ft, q⟩
def matD (L : La) (s : ChSt) : D := match s.mat with
  | none => .non
  | some i => .obj (L (.m i))
def G_Chamber_matter : Fs := fun ds om Q _ => ∃ L s, ds = [.obj (L .c)] ∧ Ch (ka K) (kC K) L s om ∧ Fit s ∧ Q (matD L s) om
theorem ok_Chamber_matter (B : Blt mg) (A : ChA K) (S : Sorts K mg) (M1 : MethOk P w K mg base (kC K) "on_pile" 1 1 (G_Chamber_on_pile (K := K))) (F : Df K d_Chamber_matter f fd) : FnOk P w K mg base (L2.CX P w) 2 f fd ["self"] (spD K 1 (G_Chamber_matter (K := K))) := by
  refine def_ok' F sc_Chamber_matter rfl N_Chamber_matter rfl (by decide +kernel) ?_
  rintro X rfl rfl rfl rfl rfl ⟨nN, nd, sc, calm, fn, room, un, pass, stk, frm, exs⟩ ⟨⟨_, _⟩, ⟨_, _⟩, _⟩ om ds Q Rr hl ⟨L, s, rfl, ch, ft, q⟩
  exact "st"
  have hc := ch.hc
  have pn1 := pn_on ch ft
  unfold matD at q
  apply st_for (g := gName 1) (U := fun d ro => ro.set 1 (some d)) (I := fun i ro' om2 => om2 = om ∧ (∃ u, ro' = [some (.obj (L .c)), u]) ∧ (s.pile.take i).find? (fun i => (s.mt i).isMatter) = none)
  exact "fo"
  case hi =>
    apply it_L (x := .lst (onD L s)) (ds := onD L s)
    · exact "v"
    · exact Lr.im
  case h0 => exact ⟨rfl, ⟨_, rfl⟩, rfl⟩
  case hP => exact fun _ _ _ _ => Lr.im
  case hd =>
    rintro ro' om2 ⟨rfl, ⟨u, rfl⟩, hn⟩
    unfold onD at hn
    rw [List.length_map, List.take_length] at hn
    unfold ChSt.mat at q
    rw [hn] at q
    exact ret_v (by exact "v") q
  case hs =>
    rintro i d ro' om2 hi ⟨rfl, ⟨u, rfl⟩, hn⟩
    obtain ⟨j, hj, rfl⟩ := map_item hi
    have hjl := (List.getElem?_eq_some_iff.mp hj).1
    have htk : s.pile.take (i + 1) = s.pile.take i ++ [j] := by rw [List.take_succ_eq_append_getElem hjl, (List.getElem?_eq_some_iff.mp hj).2]
    have A1 := ch.hm (ft.pl j (List.mem_of_getElem? hj))
    have hk : decide ((s.mt j).rank = 0) = (s.mt j).isMatter := by
      generalize s.mt j = m
      cases m <;> rfl
    exact "ro"
    apply st_when
    · exact "t"
    · intro h
      rw [hk] at h
      have hm : s.mat = some j := by
        have e : s.pile = s.pile.take i ++ j :: s.pile.drop (i + 1) := by
          rw [← List.singleton_append, ← List.append_assoc, ← htk, List.take_append_drop]
        unfold ChSt.mat
        rw [e, List.find?_append, hn, List.find?_cons, h]
        rfl
      rw [hm] at q
      exact ret_v (by exact "v") q
    · intro h
      rw [hk] at h
      refine ws_nil ⟨rfl, ⟨_, rfl⟩, ?_⟩
      rw [htk, List.find?_append, hn, List.find?_cons, h]
      rfl
theorem pu_mat {om : Om} {L : La} {s : ChSt} (ch : Ch (ka K) (kC K) L s om) (ft : Fit s) : Pu (G_Chamber_matter (K := K)) om [.obj (L .c)] (matD L s) := .mk fun Q R q => ⟨L, s, rfl, ch, ft, q⟩
def G_need_matter : Fs := fun ds om Q R => ∃ L s, ds = [.obj (L .c)] ∧ Ch (ka K) (kC K) L s om ∧ Fit s ∧ (∀ i, s.mat = some i → Q (.obj (L (.m i))) om) ∧ (s.mat = none → R (.ref (Rf.noMatter.cls K)) [] om)
theorem ok_need_matter (B : Blt mg) (x0 : Xc0 K mg "NoMatter" (Rf.noMatter.cls K)) (M1 : MethOk P w K mg base (kC K) "matter" 2 1 (G_Chamber_matter (K := K))) (F : Df K d_need_matter f fd) : FnOk P w K mg base (L2.CX P w) 3 f fd ["house"] (spD K 1 (G_need_matter (K := K))) := by
  refine def_ok' F sc_need_matter rfl N_need_matter rfl (by decide +kernel) ?_
  rintro X rfl rfl rfl rfl rfl ⟨nN, nd, sc, calm, fn, room, un, pass, stk, frm, exs⟩ ⟨⟨_, _⟩, ⟨_, _⟩, _⟩ om ds Q Rr hl ⟨L, s, rfl, ch, ft, q, qx⟩
  exact "st"
  have hc := ch.hc
  have pu1 := pu_mat ch ft
  exact "asg"
  unfold matD
  cases hm : s.mat with
  | none =>
    apply st_yes
    · exact "t"
    · rfl
    exact s_raise x0 (qx hm) calm (by exact "gl")
  | some i =>
    apply st_no
    · exact "t"
    · rfl
    exact ret_v (by exact "v") (q i hm)
--SEG
theorem pu_need {om : Om} {L : La} {s : ChSt} {i : Nat} (ch : Ch (ka K) (kC K) L s om) (ft : Fit s) (hm : s.mat = some i) : Pu (G_need_matter (K := K)) om [.obj (L .c)] (.obj (L (.m i))) := .mk fun Q R q => ⟨L, s, rfl, ch, ft, fun j hj => by rw [hm] at hj; cases hj; exact q, fun z => by rw [hm] at z; cases z⟩
/-- no matter is pending: the call raises -/
theorem gx_need {om : Om} {L : La} {s : ChSt} {Q : DK} {R : Value → List (Str × D) → Om → Prop} (ch : Ch (ka K) (kC K) L s om) (ft : Fit s) (hm : s.mat = none) (r : R (.ref (Rf.noMatter.cls K)) [] om) : G_need_matter (K := K) [.obj (L .c)] om Q R := ⟨L, s, rfl, ch, ft, fun j hj => by (rw [hm] at hj; cases hj), fun _ => r⟩
/-- a motion's check -/
def G_chk (k : Nat) : Fs := fun ds om Q R => ∃ m a q0 L s, rkM m = k ∧ ds = [.obj a, .obj (L .c)] ∧ m.At (ka K) om a q0 ∧ Ch (ka K) (kC K) L s om ∧ Fit s ∧ (s.check m.td = none → Q .non om) ∧ ∀ r, s.check m.td = some r → R (.ref (r.cls K)) r.fs om
def G_none2 : Fs := fun ds om Q _ => ∃ x y, ds = [x, y] ∧ Q .non om
theorem ok_Motion_check (B : Blt mg) (F : Df K d_Motion_check f fd) : FnOk P w K mg base (L2.CX P w) 1 f fd ["self", "house"] (spD K 2 G_none2) := by
  refine def_ok' F sc_Motion_check rfl N_Motion_check rfl (by decide +kernel) ?_
  rintro X rfl rfl rfl rfl rfl ⟨nN, nd, sc, calm, fn, room, un, pass, stk, frm, exs⟩ ⟨⟨_, _⟩, ⟨_, _⟩, _⟩ om ds Q Rr hl ⟨x, y, rfl, q⟩
  exact "st"
  exact ret_v (by exact "v") q
theorem ok_Motion_keep (B : Blt mg) (F : Df K d_Motion_keep f fd) : FnOk P w K mg base (L2.CX P w) 1 f fd ["self", "house"] (spD K 2 G_none2) := by
  refine def_ok' F sc_Motion_keep rfl N_Motion_keep rfl (by decide +kernel) ?_
  rintro X rfl rfl rfl rfl rfl ⟨nN, nd, sc, calm, fn, room, un, pass, stk, frm, exs⟩ ⟨⟨_, _⟩, ⟨_, _⟩, _⟩ om ds Q Rr hl ⟨x, y, rfl, q⟩
  exact "st"
  exact ret_v (by exact "v") q
theorem ok_Change_check (B : Blt mg) (Ae : Att K (ka K).C "edit") (At : Att K (ka K).M "text") (D1 : DefOk P w K mg base "fits" 1 2 G_fits) (D2 : DefOk P w K mg base "need_matter" 3 1 (G_need_matter (K := K))) (x0 : Xc0 K mg "NoFit" (Rf.noFit.cls K)) (F : Df K d_Change_check f fd) : FnOk P w K mg base (L2.CX P w) 4 f fd ["self", "house"] (spD K 2 (G_chk (K := K) 1)) := by
  refine def_ok' F sc_Change_check rfl N_Change_check rfl (by decide +kernel) ?_
  rintro X rfl rfl rfl rfl rfl ⟨nN, nd, sc, calm, fn, room, un, pass, stk, frm, exs⟩ ⟨⟨_, n0⟩, ⟨_, n1⟩, _⟩ om ds Q Rr hl ⟨m, a, q0, L, s, hk, rfl, A, ch, ft, q, qx⟩
  exact "st"
  obtain ⟨e, rfl⟩ : ∃ e, m = .change e := by cases m <;> first | exact ⟨_, rfl⟩ | (cases hk)
  have ha := A.o
  have hat := At
  cases hm : s.mat with
  | none =>
    have r := qx .noMatter (by simp only [Mt.td, ChSt.check, hm])
    refine st_ifE (t_notE (t_val (e_call D1 (Room.mono room (by decide)) (a_cons (e_fld (e_call D2 (Room.mono room (by decide)) ((show wav X _ om _ [.obj (L .c)] from ?_) _ _ ⟨rfl, gx_need ch ft hm r⟩) (by exact "gl") (by decide) rfl rfl) rfl) rfl) (by exact "gl") (by decide) rfl rfl)))
    exact "av"
  | some i =>
    obtain ⟨f0, t, c0, hmt⟩ := Mt.matter_of (mat_is hm)
    have hi : i < s.mots.length := ft.pl i (mat_mem hm)
    have A1 := ch.hm hi
    rw [hmt] at A1
    have ho := A1.o
    have pu1 := pu_need ch ft hm
    have hck : s.check (Td.change e) = if Ed.fits t.length e = true then none else some .noFit := by simp only [ChSt.check, hm, hmt, Mt.text]
    have lr1 : Lr om (.lst (t.map D.str)) (t.map D.str) := Lr.im
    apply st_when (k := !Ed.fits t.length e)
    · (with_reducible apply tv_not)
      (with_reducible apply tv_val)
      · (with_reducible apply v_call)
        · with_reducible assumption
        · exact Room.mono room (by decide)
        · (with_reducible apply av_cons)
          · (with_reducible apply v_fld)
            · (with_reducible apply v_call)
              · exact D2
              · exact Room.mono room (by decide)
              · exact "av"
              · rfl
              · exact pu1
              · exact "gl"
              · decide
              · exact "sd"
              · exact "sd"
            · exact ho
            · exact hat
            · rfl
            · exact "sd"
          · exact "av"
          · exact "sd"
        · rfl
        · exact "pu"
        · exact "gl"
        · decide
        · exact "sd"
        · exact "sd"
      · exact "sd"
    · intro h
      have h : Ed.fits t.length e = false := by simpa using h
      exact s_raise x0 (qx .noFit (by show s.check (Td.change e) = _; rw [hck, h]; rfl)) calm (by exact "gl")
    · intro h
      have h : Ed.fits t.length e = true := by simpa using h
      exact ws_nil (q (by show s.check (Td.change e) = _; rw [hck, if_pos h]))
theorem ok_PutOff_check (B : Blt mg) (Ae : Att K (ka K).P "sitting") (A2 : ChA K) (D2 : DefOk P w K mg base "need_matter" 3 1 (G_need_matter (K := K))) (xf : XcF P w K mg base "NotLater" "sitting" (He.ga K "NotLater")) (F : Df K d_PutOff_check f fd) : FnOk P w K mg base (L2.CX P w) 4 f fd ["self", "house"] (spD K 2 (G_chk (K := K) 3)) := by
  refine def_ok' F sc_PutOff_check rfl N_PutOff_check rfl (by decide +kernel) ?_
  rintro X rfl rfl rfl rfl rfl ⟨nN, nd, sc, calm, fn, room, un, pass, stk, frm, exs⟩ ⟨⟨_, n0⟩, ⟨_, n1⟩, _⟩ om ds Q Rr hl ⟨m, a, q0, L, s, hk, rfl, A, ch, ft, q, qx⟩
  exact "st"
  obtain ⟨n, rfl⟩ : ∃ e, m = .putOff e := by cases m <;> first | exact ⟨_, rfl⟩ | (cases hk)
  have ha := A.o
  have hc := ch.hc
  have a2 := A2.sitting
  cases hm : s.mat with
  | none =>
    have r := qx .noMatter (by simp only [Mt.td, ChSt.check, hm])
    exact st_callX D2 (Room.mono room (by decide)) (ds := [.obj (L .c)]) (by exact "av") rfl (gx_need ch ft hm r) (by exact "gl") (by decide) rfl rfl
  | some i =>
    refine st_callX D2 (Room.mono room (by decide)) (ds := [.obj (L .c)]) (by exact "av") rfl ?_ (by exact "gl") (by decide) rfl rfl
    refine ⟨L, s, rfl, ch, ft, fun j hj => ?_, fun z => by (rw [hm] at z; cases z)⟩
    have hck : s.check (Td.putOff n) = if n ≤ s.sitting then some (.notLater s.sitting) else none := by simp only [ChSt.check, hm]
    apply st_when
    · exact "t"
    · intro h
      have h := of_decide_eq_true h
      exact s_raiseF xf (by exact "v") (qx (.notLater s.sitting) (by show s.check (Td.putOff n) = _; rw [hck, if_pos h])) calm (Room.mono room (by decide)) (by exact "gl")
    · intro h
      have h := of_decide_eq_false h
      exact ws_nil (q (by show s.check (Td.putOff n) = _; rw [hck, if_neg h]))
theorem ok_Close_check (B : Blt mg) (D2 : DefOk P w K mg base "need_matter" 3 1 (G_need_matter (K := K))) (F : Df K d_Close_check f fd) : FnOk P w K mg base (L2.CX P w) 4 f fd ["self", "house"] (spD K 2 (G_chk (K := K) 4)) := by
  refine def_ok' F sc_Close_check rfl N_Close_check rfl (by decide +kernel) ?_
  rintro X rfl rfl rfl rfl rfl ⟨nN, nd, sc, calm, fn, room, un, pass, stk, frm, exs⟩ ⟨⟨_, n0⟩, ⟨_, n1⟩, _⟩ om ds Q Rr hl ⟨m, a, q0, L, s, hk, rfl, A, ch, ft, q, qx⟩
  exact "st"
  obtain rfl : m = .close := by cases m <;> first | rfl | (cases hk)
  cases hm : s.mat with
  | none =>
    have r := qx .noMatter (by simp only [Mt.td, ChSt.check, hm])
    exact st_callX D2 (Room.mono room (by decide)) (ds := [.obj (L .c)]) (by exact "av") rfl (gx_need ch ft hm r) (by exact "gl") (by decide) rfl rfl
  | some i =>
    refine st_callX D2 (Room.mono room (by decide)) (ds := [.obj (L .c)]) (by exact "av") rfl ?_ (by exact "gl") (by decide) rfl rfl
    exact ⟨L, s, rfl, ch, ft, fun j hj => ws_nil (q (by simp only [Mt.td, ChSt.check, hm])), fun z => by (rw [hm] at z; cases z)⟩
theorem ok_Lay_check (B : Blt mg) (D2 : DefOk P w K mg base "need_matter" 3 1 (G_need_matter (K := K))) (F : Df K d_Lay_check f fd) : FnOk P w K mg base (L2.CX P w) 4 f fd ["self", "house"] (spD K 2 (G_chk (K := K) 5)) := by
  refine def_ok' F sc_Lay_check rfl N_Lay_check rfl (by decide +kernel) ?_
  rintro X rfl rfl rfl rfl rfl ⟨nN, nd, sc, calm, fn, room, un, pass, stk, frm, exs⟩ ⟨⟨_, n0⟩, ⟨_, n1⟩, _⟩ om ds Q Rr hl ⟨m, a, q0, L, s, hk, rfl, A, ch, ft, q, qx⟩
  exact "st"
  obtain rfl : m = .lay := by cases m <;> first | rfl | (cases hk)
  cases hm : s.mat with
  | none =>
    have r := qx .noMatter (by simp only [Mt.td, ChSt.check, hm])
    exact st_callX D2 (Room.mono room (by decide)) (ds := [.obj (L .c)]) (by exact "av") rfl (gx_need ch ft hm r) (by exact "gl") (by decide) rfl rfl
  | some i =>
    refine st_callX D2 (Room.mono room (by decide)) (ds := [.obj (L .c)]) (by exact "av") rfl ?_ (by exact "gl") (by decide) rfl rfl
    exact ⟨L, s, rfl, ch, ft, fun j hj => ws_nil (q (by simp only [Mt.td, ChSt.check, hm])), fun z => by (rw [hm] at z; cases z)⟩
/-- the clause of a mendable change -/
theorem ed_th {x : Ed} (h : (Mt.change x).ed = some x) : atI (match x.d with | .tup ds => ds | _ => []) 2 = some (.str x.th) := by
  cases x with
  | put a s => rfl
  | cut a => cases h
  | turn a s => rfl
theorem ix_th {X : Cx} {om : Om} {x : Ed} (h : (Mt.change x).ed = some x) : Ix X om x.d (.int 2) (.str x.th) := by
  have := ed_th h
  cases x <;> exact ix_T this
theorem mend_ed {m : Mt} {x : Ed} (h : m.ed = some x) : m = .change x ∧ (Mt.change x).ed = some x ∧ m.mendable = true := by
  cases m with
  | change e => cases e <;> first | (cases h; exact ⟨rfl, rfl, rfl⟩) | cases h
  | _ => cases h
theorem mend_no {m : Mt} (h : m.ed = none) : m.mendable = false := by
  cases m with
  | change e => cases e <;> first | rfl | cases h
  | _ => rfl
theorem ok_Mend_check (B : Blt mg) (Ae : Att K (ka K).E "edit") (Ac : Att K (ka K).C "edit") (D1 : DefOk P w K mg base "fits" 1 2 G_fits) (D2 : DefOk P w K mg base "need_matter" 3 1 (G_need_matter (K := K))) (D3 : DefOk P w K mg base "is_mendable" 1 1 (G_is_mendable (K := K))) (D4 : DefOk P w K mg base "words_of" 1 1 G_words_of)
    (x0 : Xc0 K mg "NoFit" (Rf.noFit.cls K)) (x1 : Xc0 K mg "NoChange" (Rf.noChange.cls K)) (M1 : MethOk P w K mg base (kC K) "top" 1 1 (G_Chamber_top (K := K))) (F : Df K d_Mend_check f fd) : FnOk P w K mg base (L2.CX P w) 4 f fd ["self", "house"] (spD K 2 (G_chk (K := K) 2)) := by
  refine def_ok' F sc_Mend_check rfl N_Mend_check rfl (by decide +kernel) ?_
  rintro X rfl rfl rfl rfl rfl ⟨nN, nd, sc, calm, fn, room, un, pass, stk, frm, exs⟩ ⟨⟨_, n0⟩, ⟨_, n1⟩, ⟨_, n2⟩, _⟩ om ds Q Rr hl ⟨m, a, q0, L, s, hk, rfl, A, ch, ft, q, qx⟩
  exact "st"
  have sz : sizeLine = 16777216 := sizeLine_eq
  obtain ⟨e, rfl⟩ : ∃ e, m = .mend e := by cases m <;> first | exact ⟨_, rfl⟩ | (cases hk)
  have ha := A.o
  have hc := ch.hc
  cases hm : s.mat with
  | none =>
    have r := qx .noMatter (by simp only [Mt.td, ChSt.check, hm])
    exact st_callX D2 (Room.mono room (by decide)) (ds := [.obj (L .c)]) (by exact "av") rfl (gx_need ch ft hm r) (by exact "gl") (by decide) rfl rfl
  | some i =>
    refine st_callX D2 (Room.mono room (by decide)) (ds := [.obj (L .c)]) (by exact "av") rfl ?_ (by exact "gl") (by decide) rfl rfl
    refine ⟨L, s, rfl, ch, ft, fun j hj => ?_, fun z => by (rw [hm] at z; cases z)⟩
    have pu1 := pu_top ch ft
    exact "asg"
    have hpi : i ∈ s.pile := mat_mem hm
    cases hg : s.pile.getLast? with
    | none => rw [List.getLast?_eq_none_iff.mp hg] at hpi; cases hpi
    | some t0 =>
      have ht0 : t0 < s.mots.length := ft.pl t0 (List.mem_of_getLast? hg)
      have A1 := ch.hm ht0
      have htop : topD L s = .obj (L (.m t0)) := by unfold topD; rw [hg]
      rw [htop]
      have hte : s.topE = (s.mt t0).ed := by unfold ChSt.topE ChSt.top; rw [hg]; rfl
      have pu2 := pu_mend A1
      cases hed : (s.mt t0).ed with
      | none =>
        have r := qx .noChange (by simp only [Mt.td, ChSt.check, hm, hte, hed])
        rw [mend_no hed] at pu2
        apply st_yes (k := !false)
        · (with_reducible apply tv_not)
          (with_reducible apply tv_val)
          · (with_reducible apply v_call)
            · exact D3
            · exact Room.mono room (by decide)
            · exact "av"
            · rfl
            · exact pu2
            · exact "gl"
            · decide
            · exact "sd"
            · exact "sd"
          · exact "sd"
        · rfl
        exact s_raise x1 r calm (by exact "gl")
      | some x =>
        obtain ⟨hmx, hxe, hmd⟩ := mend_ed hed
        have hck : s.check (Td.mend e) = if Ed.fits (wordsC x.th).length e = true then none else some .noFit := by simp only [ChSt.check, hm, hte, hed]
        rw [hmd] at pu2
        apply st_no (k := !true)
        · (with_reducible apply tv_not)
          (with_reducible apply tv_val)
          · (with_reducible apply v_call)
            · exact D3
            · exact Room.mono room (by decide)
            · exact "av"
            · rfl
            · exact pu2
            · exact "gl"
            · decide
            · exact "sd"
            · exact "sd"
          · exact "sd"
        · rfl
        have hb := ft.mb t0 ht0
        rw [hmx] at hb A1
        have ho := A1.o
        have hb : x.th.length ≤ 10000 + 200 * 1000 := hb
        have ixt : Ix X om x.d (.int 2) (.str x.th) := ix_th hxe
        apply st_when (k := !Ed.fits (wordsC x.th).length e)
        · exact "t"
        · intro h
          have h : Ed.fits (wordsC x.th).length e = false := by simpa using h
          exact s_raise x0 (qx .noFit (by show s.check (Td.mend e) = _; rw [hck, h]; rfl)) calm (by exact "gl")
        · intro h
          have h : Ed.fits (wordsC x.th).length e = true := by simpa using h
          exact ws_nil (q (by show s.check (Td.mend e) = _; rw [hck, if_pos h]))
--SEG
def G_Chamber_close : Fs := fun ds om Q _ => ∃ L s, ds = [.obj (L .c)] ∧ Ch (ka K) (kC K) L s om ∧ ∀ L' om', Nx (ka K) (kC K) L s om L' { s with closed := true } om' → Q .non om'
theorem ok_Chamber_close (B : Blt mg) (A : ChA K) (F : Df K d_Chamber_close f fd) : FnOk P w K mg base (L2.CX P w) 1 f fd ["self"] (spD K 1 (G_Chamber_close (K := K))) := by
  refine def_ok' F sc_Chamber_close rfl N_Chamber_close rfl (by decide +kernel) ?_
  rintro X rfl rfl rfl rfl rfl ⟨nN, nd, sc, calm, fn, room, un, pass, stk, frm, exs⟩ ⟨⟨_, _⟩, _⟩ om ds Q Rr hl ⟨L, s, rfl, ch, q⟩
  exact "st"
  refine st_fld (d := .bl true) (p := L .c) (C := kC X.K) (fs := s.fs L) (by exact "v") (by exact "v") ch.hc A.closed (by show 8 < 1000; decide) ?_ (by exact "sd")
  exact ws_nil (q L _ (ch.setC (s' := { s with closed := true }) rfl rfl rfl rfl rfl))
def G_Chamber_next_sitting : Fs := fun ds om Q _ => ∃ L s, ds = [.obj (L .c)] ∧ Ch (ka K) (kC K) L s om ∧ ∀ L' om', Nx (ka K) (kC K) L s om L' { s with sitting := s.sitting + 1 } om' → Q .non om'
theorem ok_Chamber_next_sitting (B : Blt mg) (A : ChA K) (F : Df K d_Chamber_next_sitting f fd) : FnOk P w K mg base (L2.CX P w) 1 f fd ["self"] (spD K 1 (G_Chamber_next_sitting (K := K))) := by
  refine def_ok' F sc_Chamber_next_sitting rfl N_Chamber_next_sitting rfl (by decide +kernel) ?_
  rintro X rfl rfl rfl rfl rfl ⟨nN, nd, sc, calm, fn, room, un, pass, stk, frm, exs⟩ ⟨⟨_, _⟩, _⟩ om ds Q Rr hl ⟨L, s, rfl, ch, q⟩
  exact "st"
  have hc := ch.hc
  have a1 := A.sitting
  refine st_fld (d := .int (s.sitting + 1)) (p := L .c) (C := kC X.K) (fs := s.fs L) (by exact "v") (by exact "v") ch.hc A.sitting (by show 8 < 1000; decide) ?_ (by exact "sd")
  exact ws_nil (q L _ (ch.setC (s' := { s with sitting := s.sitting + 1 }) rfl rfl rfl rfl rfl))
def G_Chamber_note : Fs := fun ds om Q _ => ∃ L s x e, ds = [.obj (L .c), x] ∧ Ch (ka K) (kC K) L s om ∧ s.rows.length ≤ 1000 ∧ DdAt om x e ∧ smD e ∧ ∀ om', Nx (ka K) (kC K) L s om L (s.note e) om' → Q .non om'
theorem ok_Chamber_note (B : Blt mg) (A : ChA K) (D1 : DefOk P w K mg base "show_deed" 3 1 G_show_deed) (F : Df K d_Chamber_note f fd) : FnOk P w K mg base (L2.CX P w) 4 f fd ["self", "deed"] (spD K 2 (G_Chamber_note (K := K))) := by
  refine def_ok' F sc_Chamber_note rfl N_Chamber_note rfl (by decide +kernel) ?_
  rintro X rfl rfl rfl rfl rfl ⟨nN, nd, sc, calm, fn, room, un, pass, stk, frm, exs⟩ ⟨⟨_, _⟩, ⟨_, _⟩, _⟩ om ds Q Rr hl ⟨L, s, x, e, rfl, ch, hr, hx, hs, q⟩
  exact "st"
  have sz : sizeLine = 16777216 := sizeLine_eq
  have hc := ch.hc
  have hro := ch.hro
  have a1 := A.rows
  have pu1 : Pu G_show_deed om [x] (.str (showD e)) := .mk fun Q R q => ⟨x, e, rfl, hx, hs, q⟩
  have hlen : (s.rows.map D.str).length < sizeLine := by rw [List.length_map, sz]; omega
  refine st_append (d := .str (showD e)) (p := L .ro) (ds := s.rows.map .str) (by exact "v") ?_ hro hlen (ws_nil (q _ (ch.note e)))
  (with_reducible apply v_call)
  · exact D1
  · exact Room.mono room (by decide)
  · exact "av"
  · rfl
  · exact pu1
  · exact "gl"
  · decide
  · exact "sd"
  · exact "sd"
def G_Chamber_ended : Fs := fun ds om Q _ => ∃ L s ys i wd, ds = [.obj (L .c), .str wd] ∧ Ch (ka K) (kC K) L s om ∧ Fit s ∧ s.pile = ys ++ [i] ∧ ∀ om', Nx (ka K) (kC K) L s om L (s.ended wd) om' → Q (.obj (L (.m i))) om'
theorem ok_Chamber_ended (B : Blt mg) (A : ChA K) (F : Df K d_Chamber_ended f fd) : FnOk P w K mg base (L2.CX P w) 1 f fd ["self", "word"] (spD K 2 (G_Chamber_ended (K := K))) := by
  refine def_ok' F sc_Chamber_ended rfl N_Chamber_ended rfl (by decide +kernel) ?_
  rintro X rfl rfl rfl rfl rfl ⟨nN, nd, sc, calm, fn, room, un, pass, stk, frm, exs⟩ ⟨⟨_, _⟩, ⟨_, _⟩, ⟨_, l2⟩, _⟩ om ds Q Rr hl ⟨L, s, ys, i, wd, rfl, ch, ft, e, q⟩
  exact "st"
  have sz : sizeLine = 16777216 := sizeLine_eq
  have hc := ch.hc
  have hpi := ch.hpi
  have a1 := A.pile
  have a2 := A.decided
  have a3 := A.motions
  have nx := ch.ended (w := wd) e
  have hlast : (nums s.pile)[(nums s.pile).length - 1]? = some (num i) := by
    rw [e]
    unfold nums
    rw [List.map_append, List.length_append, List.length_map]
    show (ys.map num ++ [num i])[ys.length + 1 - 1]? = _
    rw [Nat.add_sub_cancel, List.getElem?_append_right (by rw [List.length_map]; exact Nat.le_refl _), List.length_map, Nat.sub_self]
    rfl
  have hdl : (nums s.pile).dropLast = nums ys := by
    rw [e]
    unfold nums
    rw [List.map_append, List.map_cons, List.map_nil, List.dropLast_concat]
  refine l2.setE nd (e_bm0 PySem.F.plainAttrs_list PySem.F.slot_list_pop PySem.F.type_list_pop ((show wv X _ om _ (.obj (L .pi)) from ?_) _ _ ⟨.lst (.ob hpi), m_pop hpi hlast ?_⟩)) rfl
  · exact "v"
  rw [hdl]
  change ws X _ [some (.obj (L .c)), some (.str wd), some (num i)] _ _
  have nep : L .de ≠ L .pi := Ch.neF ch rfl rfl (by simp)
  have ncp : L .c ≠ L .pi := Ch.neF ch rfl rfl (by simp)
  have hc2 : ups om (L .pi) (.lst (nums ys)) (L .c) = some (.ins (kC X.K) (s.fs L)) := by rw [ups_ne ncp]; exact hc
  have hde : ups om (L .pi) (.lst (nums ys)) (L .de) = some (.lst s.deD) := by rw [ups_ne nep]; exact ch.hde
  have hlen : s.deD.length < sizeLine := by rw [deD_len, sz]; have := ft.dn; omega
  refine st_append (d := .tup [num i, .str wd]) (p := L .de) (ds := s.deD) (by exact "v") (by exact "v") hde hlen ?_
  have hc3 := nx.ch.hc
  have hmo3 := nx.ch.hmo
  have hi : i < s.mots.length := ft.pl i (by rw [e]; simp)
  have hat : atI ((s.ended wd).moD L) ((i : Int) + 1 - 1) = some (.obj (L (.m i))) := at_mo (by rw [ended_eq e]; exact hi)
  exact ret_v (by exact "v") (q _ nx)
def G_Chamber_set_aside : Fs := fun ds om Q _ => ∃ L s i r u, ds = [.obj (L .c), .int u] ∧ Ch (ka K) (kC K) L s om ∧ Fit s ∧ s.pile = i :: r ∧ (∀ x ∈ s.aside, x.1 ≠ i) ∧ ∀ L' om', Nx (ka K) (kC K) L s om L' (s.setAside u) om' → Q .non om'
theorem ok_Chamber_set_aside (B : Blt mg) (A : ChA K) (F : Df K d_Chamber_set_aside f fd) : FnOk P w K mg base (L2.CX P w) 1 f fd ["self", "until"] (spD K 2 (G_Chamber_set_aside (K := K))) := by
  refine def_ok' F sc_Chamber_set_aside rfl N_Chamber_set_aside rfl (by decide +kernel) ?_
  rintro X rfl rfl rfl rfl rfl ⟨nN, nd, sc, calm, fn, room, un, pass, stk, frm, exs⟩ ⟨⟨_, _⟩, ⟨_, _⟩, _⟩ om ds Q Rr hl ⟨L, s, i, r, u, rfl, ch, ft, e, hn, q⟩
  exact "st"
  have sz : sizeLine = 16777216 := sizeLine_eq
  have hc := ch.hc
  have hpi := ch.hpi
  have a1 := A.pile
  have a2 := A.aside
  have hat0 : atI (nums s.pile) 0 = some (num i) := by rw [e]; exact at_num0
  refine st_dput (d := .tup [.int u, .obj (L .pi)]) (p := L .as) (k := .inl ((i : Int) + 1)) (kvs := s.asD L) (un_1 un) (by exact "v") (by exact "v") (show wv X _ om _ (.int ((i : Int) + 1)) from ?_) ch.has_ (by rw [asD_len, sz]; have := ft.an; omega) ?_ (by exact "sd")
  · exact "v"
  rw [asD_put hn]
  have nca : L .c ≠ L .as := Ch.neF ch rfl rfl (by simp)
  have hc2 : ups om (L .as) (.dct (s.asD L ++ [(.inl ((i : Int) + 1), .tup [.int u, .obj (L .pi)])])) (L .c) = some (.ins (kC X.K) (s.fs L)) := by rw [ups_ne nca]; exact hc
  refine st_fldN (ds := []) (p := L .c) (C := kC X.K) (fs := s.fs L) (by exact "n") (fun _ _ => by exact "v") hc2 a1 (by show 8 < 1000; decide) (fun p hp hpc => ?_) (by exact "sd")
  have hp0 : om p = none := by
    by_cases z : p = L .as
    · rw [z, ups_same] at hp; cases hp
    · rwa [ups_ne z] at hp
  have nx := ch.setAside (u := u) e hn hp0
  refine ws_nil (q (L.aside i p) _ ?_)
  have ef : (s.setAside u).fs (L.aside i p) = putD "pile" (.obj p) (s.fs L) := by
    rw [setAside_eq e]
    unfold ChSt.fs
    simp only [La.aside_pi, La.aside_ne (L := L) (i := i) (p := p) (x := .mo) (by simp) (by simp), La.aside_ne (L := L) (i := i) (p := p) (x := .as) (by simp) (by simp), La.aside_ne (L := L) (i := i) (p := p) (x := .de) (by simp) (by simp), La.aside_ne (L := L) (i := i) (p := p) (x := .ro) (by simp) (by simp)]
    rfl
  rw [ef] at nx
  exact nx
def G_Matter_lay (C : Addr) : Fs := fun ds om Q _ => ∃ a q f t ch e, ds = [.obj a, Ed.d e] ∧ om a = some (.ins C [("first", .lst (List.map .str f)), ("text", .lst (List.map .str t)), ("changes", .obj q)]) ∧ om q = some (.lst (List.map Ed.d ch)) ∧ Ed.fits t.length e = true ∧ t.length ≤ 1000000 ∧ ch.length ≤ 1000 ∧
  Q .non (ups (ups om a (.ins C [("first", .lst (List.map .str f)), ("text", .lst (List.map .str (Ed.laid t e))), ("changes", .obj q)])) q (.lst (List.map Ed.d (ch ++ [e]))))
theorem ok_Matter_lay {C CF : Addr} (B : Blt mg) (A1 : Att K C "text") (A2 : Att K C "changes") (D1 : DefOk P w K mg base "laid" 2 2 (G_laid CF)) (F : Df K d_Matter_lay f fd) : FnOk P w K mg base (L2.CX P w) 3 f fd ["self", "edit"] (spD K 2 (G_Matter_lay C)) := by
  refine def_ok' F sc_Matter_lay rfl N_Matter_lay rfl (by decide +kernel) ?_
  rintro X rfl rfl rfl rfl rfl ⟨nN, nd, sc, calm, fn, room, un, pass, stk, frm, exs⟩ ⟨⟨_, _⟩, ⟨_, _⟩, _⟩ om ds Q Rr hl ⟨a, p0, f, t, ch, e, rfl, ha, hq, hf, ht, hch, q⟩
  exact "st"
  have sz : sizeLine = 16777216 := sizeLine_eq
  have hne : p0 ≠ a := fun z => by rw [z, ha] at hq; cases hq
  apply st_fld (d := .lst ((Ed.laid t e).map .str)) (p := a) (C := C)
  · (with_reducible apply wn.v)
    (with_reducible apply n_call)
    · exact D1
    · exact Room.mono room (by decide)
    · (with_reducible apply av_cons)
      · exact "v"
      · exact "av"
      · exact "sd"
    · rfl
    · exact pn_laid Lr.im ht hf
    · exact "gl"
    · decide
    · exact "sd"
    · exact "sd"
  · exact "v"
  · exact ha
  · exact A1
  · show 3 < 1000
    decide
  show ws X _ _ (ups om a (.ins C [("first", .lst (f.map .str)), ("text", .lst ((Ed.laid t e).map .str)), ("changes", .obj p0)])) _
  have ha2 : (ups om a (.ins C [("first", .lst (f.map .str)), ("text", .lst ((Ed.laid t e).map .str)), ("changes", .obj p0)])) a = some (.ins C [("first", .lst (f.map .str)), ("text", .lst ((Ed.laid t e).map .str)), ("changes", .obj p0)]) := ups_same
  have hq2 : (ups om a (.ins C [("first", .lst (f.map .str)), ("text", .lst ((Ed.laid t e).map .str)), ("changes", .obj p0)])) p0 = some (.lst (ch.map Ed.d)) := by rw [ups_ne hne]; exact hq
  refine st_append (d := e.d) (p := p0) (ds := ch.map Ed.d) (by exact "v") (by exact "v") hq2 (by rw [List.length_map, sz]; omega) (ws_nil ?_)
  rw [List.map_append] at q
  exact q
  all_goals exact "sd"
def G_Change_mend (C : Addr) : Fs := fun ds om Q _ => ∃ a x e, ds = [.obj a, Ed.d e] ∧ om a = some (.ins C [("edit", Ed.d x)]) ∧ (Mt.change x).ed = some x ∧ Ed.fits (wordsC x.th).length e = true ∧ x.th.length ≤ 900000 ∧ e.th.length ≤ 1000 ∧ Q .non (ups om a (.ins C [("edit", Ed.d (x.setTh (clauseC (Ed.laid (wordsC x.th) e))))]))
theorem ok_Change_mend {C CF : Addr} (B : Blt mg) (A1 : Att K C "edit") (D1 : DefOk P w K mg base "laid" 2 2 (G_laid CF)) (D2 : DefOk P w K mg base "words_of" 1 1 G_words_of) (D3 : DefOk P w K mg base "clause_of" 1 1 G_clause_of) (F : Df K d_Change_mend f fd) : FnOk P w K mg base (L2.CX P w) 3 f fd ["self", "edit"] (spD K 2 (G_Change_mend C)) := by
  refine def_ok' F sc_Change_mend rfl N_Change_mend rfl (by decide +kernel) ?_
  rintro X rfl rfl rfl rfl rfl ⟨nN, nd, sc, calm, fn, room, un, pass, stk, frm, exs⟩ ⟨⟨_, _⟩, ⟨_, _⟩, ⟨_, l2⟩, _⟩ om ds Q Rr hl ⟨a, x, e, rfl, ha, hx, hf, hz, hz2, q⟩
  exact "st"
  have sz : sizeLine = 16777216 := sizeLine_eq
  have ixt : Ix X om x.d (.int 2) (.str x.th) := ix_th hx
  have h1 := wordsC_size x.th
  have h2 := laid_size (zs := wordsC x.th) (e := e)
  have hlen : (wordsC x.th).length ≤ 1000000 := by omega
  have e2 : (x.setTh (clauseC (Ed.laid (wordsC x.th) e))).d = .tup [.str x.kd, .int x.at_, .str (clauseC (Ed.laid (wordsC x.th) e))] := by cases x <;> first | rfl | cases hx
  refine Lo.set (d := .lst ((Ed.laid (wordsC x.th) e).map .str)) l2 nd ?_ ?_ (by exact "sd")
  · (with_reducible apply wn.v)
    (with_reducible apply n_call)
    · exact D1
    · exact Room.mono room (by decide)
    · (with_reducible apply av_cons)
      · (with_reducible apply wn.v)
        exact "n"
      · exact "av"
      · exact "sd"
    · rfl
    · exact pn_laid Lr.im (by omega) hf
    · exact "gl"
    · decide
    · exact "sd"
    · exact "sd"
  exact "ro"
  apply st_fld (d := .tup [.str x.kd, .int x.at_, .str (clauseC (Ed.laid (wordsC x.th) e))]) (p := a) (C := C)
  · exact "v"
  · exact "v"
  · exact ha
  · exact A1
  · show 1 < 1000
    decide
  · rw [← e2]
    exact ws_nil q
--SEG
def keptB (s : Str) (a n : Int) : Bool := if a ≤ n then false else decide (s = "more") || decide (2 * n ≤ a)
def G_is_kept : Fs := fun ds om Q _ => ∃ s a n, ds = [.str s, .int a, .int n] ∧ Q (.bl (keptB s a n)) om
theorem ok_is_kept (B : Blt mg) (F : Df K d_is_kept f fd) : FnOk P w K mg base (L2.CX P w) 1 f fd ["need", "ayes", "noes"] (spD K 3 G_is_kept) := by
  refine def_ok' F sc_is_kept rfl N_is_kept rfl (by decide +kernel) ?_
  rintro X rfl rfl rfl rfl rfl ⟨nN, nd, sc, calm, fn, room, un, pass, stk, frm, exs⟩ ⟨⟨_, _⟩, ⟨_, _⟩, ⟨_, _⟩, _⟩ om ds Q Rr hl ⟨s, a, n, rfl, q⟩
  exact "st"
  apply st_when
  · exact "t"
  · intro h
    rw [keptB, if_pos (of_decide_eq_true h)] at q
    exact ret_v (by exact "v") q
  · intro h
    rw [keptB, if_neg (of_decide_eq_false h)] at q
    exact ret_v (by exact "v") q
theorem pu_kept {om : Om} {s : Str} {a b : Int} : Pu G_is_kept om [.str s, .int a, .int b] (.bl (keptB s a b)) := .mk fun Q R q => ⟨s, a, b, rfl, q⟩
theorem kept_m {m : Mt} {a n : Int} : keptB m.need a n = m.kept a n := by
  unfold keptB Mt.kept
  by_cases h : a ≤ n
  · rw [if_pos h, decide_eq_false (show ¬ n < a by omega)]; rfl
  · rw [if_neg h, decide_eq_true (show n < a by omega)]; rfl
local macro_rules | `(tactic| exact "pu") => `(tactic| with_reducible exact pu_kept)
/-- a motion is kept -/
def G_kp (k : Nat) : Fs := fun ds om Q _ => ∃ m a q0 L s, rkM m = k ∧ ds = [.obj a, .obj (L .c)] ∧ m.At (ka K) om a q0 ∧ Ch (ka K) (kC K) L s om ∧ Fit s ∧ WF.KeepOk s m ∧ bdM 1000 m ∧ (∀ i r, s.pile = i :: r → ∀ x ∈ s.aside, x.1 ≠ i) ∧ ∀ L' om', Nx (ka K) (kC K) L s om L' (s.keep m) om' → Q .non om'
theorem ok_Change_keep (B : Blt mg) (Ae : Att K (ka K).C "edit") (M1 : MethOk P w K mg base (kC K) "matter" 2 1 (G_Chamber_matter (K := K))) (M2 : MethOk P w K mg base (ka K).M "lay" 3 2 (G_Matter_lay (ka K).M)) (F : Df K d_Change_keep f fd) : FnOk P w K mg base (L2.CX P w) 4 f fd ["self", "house"] (spD K 2 (G_kp (K := K) 1)) := by
  refine def_ok' F sc_Change_keep rfl N_Change_keep rfl (by decide +kernel) ?_
  rintro X rfl rfl rfl rfl rfl ⟨nN, nd, sc, calm, fn, room, un, pass, stk, frm, exs⟩ ⟨⟨_, n0⟩, ⟨_, n1⟩, _⟩ om ds Q Rr hl ⟨m, a, q0, L, s, hk, rfl, A, ch, ft, ko, bm, hh, q⟩
  exact "st"
  obtain ⟨e, rfl⟩ : ∃ e, m = .change e := by cases m <;> first | exact ⟨_, rfl⟩ | (cases hk)
  obtain ⟨i, f0, t, c0, h1, h2, h3⟩ := ko
  have hi : i < s.mots.length := ft.pl i (by rw [h1]; simp)
  have ha := A.o
  have hc := ch.hc
  have pu1 := pu_mat ch ft
  have hm : s.mat = some i := mat_cons h1 (by rw [h2]; rfl)
  have hmd : matD L s = .obj (L (.m i)) := by unfold matD; rw [hm]
  rw [hmd] at pu1
  have A1 := ch.hm hi
  rw [h2] at A1
  have hb := ft.mb i hi
  rw [h2] at hb
  have hne : L (.q i) ≠ L (.m i) := fun z => by have := A1.c _ rfl; rw [z, A1.o] at this; cases this
  have hkeep := WF.keep_change (e := e) h1 h2
  refine st_e (e_m (ds := [e.d]) (show wv X _ om _ (.obj (L (.m i))) from ?_) A1.o rfl M2 (Room.mono room (by decide)) ?_ rfl ?_) rfl
  · exact "v"
  · exact "av"
  · refine ⟨_, _, f0, t, c0, e, rfl, A1.o, A1.c _ rfl, h3, by have := hb.2.1; omega, hb.2.2, ws_nil (q L _ ?_)⟩
    rw [hkeep]
    refine ch.setM hi (by rw [h2]; rfl) ⟨?_, fun c1 e1 => ?_⟩ (fun b o n1 n2 hbo => ?_)
    · rw [ups_ne (Ne.symm hne), ups_same]; rfl
    · cases e1; exact ups_same
    · rw [ups_ne (n2 (by rw [h2]; exact Option.some_ne_none _)), ups_ne n1]; exact hbo
theorem ok_Mend_keep (B : Blt mg) (Ae : Att K (ka K).E "edit") (M1 : MethOk P w K mg base (kC K) "top" 1 1 (G_Chamber_top (K := K))) (M2 : MethOk P w K mg base (ka K).C "mend" 3 2 (G_Change_mend (ka K).C)) (F : Df K d_Mend_keep f fd) : FnOk P w K mg base (L2.CX P w) 4 f fd ["self", "house"] (spD K 2 (G_kp (K := K) 2)) := by
  refine def_ok' F sc_Mend_keep rfl N_Mend_keep rfl (by decide +kernel) ?_
  rintro X rfl rfl rfl rfl rfl ⟨nN, nd, sc, calm, fn, room, un, pass, stk, frm, exs⟩ ⟨⟨_, n0⟩, ⟨_, n1⟩, _⟩ om ds Q Rr hl ⟨m, a, q0, L, s, hk, rfl, A, ch, ft, ko, bm, hh, q⟩
  exact "st"
  obtain ⟨e, rfl⟩ : ∃ e, m = .mend e := by cases m <;> first | exact ⟨_, rfl⟩ | (cases hk)
  obtain ⟨j, i, f0, t, c0, x, h1, h2, h3, h4, h5, h6⟩ := ko
  have hi : i < s.mots.length := ft.pl i (by rw [h1]; simp)
  have ha := A.o
  have hc := ch.hc
  have pu1 := pu_top ch ft
  have htop : topD L s = .obj (L (.m i)) := by unfold topD; rw [h1]; rfl
  rw [htop] at pu1
  have A1 := ch.hm hi
  rw [h3] at A1
  have hb := ft.mb i hi
  rw [h3] at hb
  have hb : x.th.length ≤ 10000 + 200 * 1000 := hb
  have be : e.th.length ≤ 99 := bm
  have hkeep := WF.keep_mend (e := e) h1 h3
  refine st_e (e_m (ds := [e.d]) (show wv X _ om _ (.obj (L (.m i))) from ?_) A1.o rfl M2 (Room.mono room (by decide)) ?_ rfl ?_) rfl
  · exact "v"
  · exact "av"
  · refine ⟨_, x, e, rfl, A1.o, h4, h5, by omega, by omega, ws_nil (q L _ ?_)⟩
    rw [hkeep]
    refine ch.setM hi (by rw [h3]; rfl) ⟨?_, fun c1 e1 => ?_⟩ (fun b o n1 n2 hbo => ?_)
    · rw [ups_same]; rfl
    · cases e1
    · rw [ups_ne n1]; exact hbo
theorem ok_PutOff_keep (B : Blt mg) (Ae : Att K (ka K).P "sitting") (M1 : MethOk P w K mg base (kC K) "set_aside" 1 2 (G_Chamber_set_aside (K := K))) (F : Df K d_PutOff_keep f fd) : FnOk P w K mg base (L2.CX P w) 2 f fd ["self", "house"] (spD K 2 (G_kp (K := K) 3)) := by
  refine def_ok' F sc_PutOff_keep rfl N_PutOff_keep rfl (by decide +kernel) ?_
  rintro X rfl rfl rfl rfl rfl ⟨nN, nd, sc, calm, fn, room, un, pass, stk, frm, exs⟩ ⟨⟨_, n0⟩, ⟨_, n1⟩, _⟩ om ds Q Rr hl ⟨m, a, q0, L, s, hk, rfl, A, ch, ft, ko, bm, hh, q⟩
  exact "st"
  obtain ⟨n, rfl⟩ : ∃ e, m = .putOff e := by cases m <;> first | exact ⟨_, rfl⟩ | (cases hk)
  obtain ⟨i, r, f0, t, c0, h1, h2⟩ := ko
  have ha := A.o
  have hc := ch.hc
  refine st_e (e_m (ds := [.int n]) (show wv X _ om _ (.obj (L .c)) from ?_) hc rfl M1 (Room.mono room (by decide)) ?_ rfl ?_) rfl
  · exact "v"
  · exact "av"
  · exact ⟨L, s, i, r, n, rfl, ch, ft, h1, hh i r h1, fun L' om' nx => ws_nil (q L' om' nx)⟩
theorem ok_Lay_keep (B : Blt mg) (A2 : ChA K) (M1 : MethOk P w K mg base (kC K) "set_aside" 1 2 (G_Chamber_set_aside (K := K))) (F : Df K d_Lay_keep f fd) : FnOk P w K mg base (L2.CX P w) 2 f fd ["self", "house"] (spD K 2 (G_kp (K := K) 5)) := by
  refine def_ok' F sc_Lay_keep rfl N_Lay_keep rfl (by decide +kernel) ?_
  rintro X rfl rfl rfl rfl rfl ⟨nN, nd, sc, calm, fn, room, un, pass, stk, frm, exs⟩ ⟨⟨_, n0⟩, ⟨_, n1⟩, _⟩ om ds Q Rr hl ⟨m, a, q0, L, s, hk, rfl, A, ch, ft, ko, bm, hh, q⟩
  exact "st"
  obtain rfl : m = .lay := by cases m <;> first | rfl | (cases hk)
  obtain ⟨i, r, f0, t, c0, h1, h2⟩ := ko
  have hc := ch.hc
  have a2 := A2.sitting
  refine st_e (e_m (ds := [.int s.sitting]) (show wv X _ om _ (.obj (L .c)) from ?_) hc rfl M1 (Room.mono room (by decide)) ?_ rfl ?_) rfl
  · exact "v"
  · exact "av"
  · exact ⟨L, s, i, r, s.sitting, rfl, ch, ft, h1, hh i r h1, fun L' om' nx => ws_nil (q L' om' nx)⟩
theorem ok_Close_keep (B : Blt mg) (M1 : MethOk P w K mg base (kC K) "close" 1 1 (G_Chamber_close (K := K))) (F : Df K d_Close_keep f fd) : FnOk P w K mg base (L2.CX P w) 2 f fd ["self", "house"] (spD K 2 (G_kp (K := K) 4)) := by
  refine def_ok' F sc_Close_keep rfl N_Close_keep rfl (by decide +kernel) ?_
  rintro X rfl rfl rfl rfl rfl ⟨nN, nd, sc, calm, fn, room, un, pass, stk, frm, exs⟩ ⟨⟨_, n0⟩, ⟨_, n1⟩, _⟩ om ds Q Rr hl ⟨m, a, q0, L, s, hk, rfl, A, ch, ft, ko, bm, hh, q⟩
  exact "st"
  obtain rfl : m = .close := by cases m <;> first | rfl | (cases hk)
  refine st_e (e_m0 (show wv X _ om _ (.obj (L .c)) from ?_) ch.hc rfl M1 (Room.mono room (by decide)) ?_) rfl
  · exact "v"
  · exact ⟨L, s, rfl, ch, fun L' om' nx => ws_nil (q L' om' nx)⟩
theorem ok_Rest_keep (B : Blt mg) (M1 : MethOk P w K mg base (kC K) "next_sitting" 1 1 (G_Chamber_next_sitting (K := K))) (F : Df K d_Rest_keep f fd) : FnOk P w K mg base (L2.CX P w) 2 f fd ["self", "house"] (spD K 2 (G_kp (K := K) 6)) := by
  refine def_ok' F sc_Rest_keep rfl N_Rest_keep rfl (by decide +kernel) ?_
  rintro X rfl rfl rfl rfl rfl ⟨nN, nd, sc, calm, fn, room, un, pass, stk, frm, exs⟩ ⟨⟨_, n0⟩, ⟨_, n1⟩, _⟩ om ds Q Rr hl ⟨m, a, q0, L, s, hk, rfl, A, ch, ft, ko, bm, hh, q⟩
  exact "st"
  obtain rfl : m = .rest := by cases m <;> first | rfl | (cases hk)
  refine st_e (e_m0 (show wv X _ om _ (.obj (L .c)) from ?_) ch.hc rfl M1 (Room.mono room (by decide)) ?_) rfl
  · exact "v"
  · exact ⟨L, s, rfl, ch, fun L' om' nx => ws_nil (q L' om' nx)⟩
/-- the motions' checks and keeps, by their classes -/
structure Acts (P : Program) (w : World) (K : PySem.W.Frag) (mg : Str → Option Value) (base : Heap) : Prop where
  chk : ∀ m : Mt, ∃ k G, k ≤ 4 ∧ MethOk P w K mg base (m.cls (ka K)) "check" k 2 G ∧ ∀ ds om Q R, G_chk (K := K) (rkM m) ds om Q R → G ds om Q R
  kep : ∀ m : Mt, ∃ k G, k ≤ 4 ∧ MethOk P w K mg base (m.cls (ka K)) "keep" k 2 G ∧ ∀ ds om Q R, G_kp (K := K) (rkM m) ds om Q R → G ds om Q R
theorem chk_none {m : Mt} (h : rkM m = 0 ∨ rkM m = 6 ∨ rkM m = 7) (ds : List D) (om : Om) (Q : DK) (R : Value → List (Str × D) → Om → Prop) : G_chk (K := K) (rkM m) ds om Q R → G_none2 ds om Q R := by
  rintro ⟨m', a, q0, L, s, hk, rfl, A, ch, ft, q, qx⟩
  refine ⟨_, _, rfl, q ?_⟩
  rw [← hk] at h
  cases m' <;> first | rfl | (simp [rkM] at h)
theorem kp_none {m : Mt} (h : rkM m = 0 ∨ rkM m = 7) (ds : List D) (om : Om) (Q : DK) (R : Value → List (Str × D) → Om → Prop) : G_kp (K := K) (rkM m) ds om Q R → G_none2 ds om Q R := by
  rintro ⟨m', a, q0, L, s, hk, rfl, A, ch, ft, ko, bm, hh, q⟩
  have e : s.keep m' = s := by
    rw [← hk] at h
    cases m' <;> first | rfl | (simp [rkM] at h)
  refine ⟨_, _, rfl, q L om ?_⟩
  rw [e]
  exact Nx.refl ch
theorem acts_of (c0 : MethOk P w K mg base (He.ga K "Matter") "check" 1 2 G_none2) (c1 : MethOk P w K mg base (He.ga K "Change") "check" 4 2 (G_chk (K := K) 1)) (c2 : MethOk P w K mg base (He.ga K "Mend") "check" 4 2 (G_chk (K := K) 2)) (c3 : MethOk P w K mg base (He.ga K "PutOff") "check" 4 2 (G_chk (K := K) 3))
    (c4 : MethOk P w K mg base (He.ga K "Close") "check" 4 2 (G_chk (K := K) 4)) (c5 : MethOk P w K mg base (He.ga K "Lay") "check" 4 2 (G_chk (K := K) 5)) (c6 : MethOk P w K mg base (He.ga K "Rest") "check" 1 2 G_none2) (c7 : MethOk P w K mg base (He.ga K "Point") "check" 1 2 G_none2)
    (k0 : MethOk P w K mg base (He.ga K "Matter") "keep" 1 2 G_none2) (k1 : MethOk P w K mg base (He.ga K "Change") "keep" 4 2 (G_kp (K := K) 1)) (k2 : MethOk P w K mg base (He.ga K "Mend") "keep" 4 2 (G_kp (K := K) 2)) (k3 : MethOk P w K mg base (He.ga K "PutOff") "keep" 2 2 (G_kp (K := K) 3))
    (k4 : MethOk P w K mg base (He.ga K "Close") "keep" 2 2 (G_kp (K := K) 4)) (k5 : MethOk P w K mg base (He.ga K "Lay") "keep" 2 2 (G_kp (K := K) 5)) (k6 : MethOk P w K mg base (He.ga K "Rest") "keep" 2 2 (G_kp (K := K) 6)) (k7 : MethOk P w K mg base (He.ga K "Point") "keep" 1 2 G_none2) : Acts P w K mg base := by
  refine ⟨fun m => ?_, fun m => ?_⟩
  · cases m with
    | matter f t ch => exact ⟨1, _, by decide, c0, chk_none (.inl rfl)⟩
    | change e => exact ⟨4, _, by decide, c1, fun _ _ _ _ h => h⟩
    | mend e => exact ⟨4, _, by decide, c2, fun _ _ _ _ h => h⟩
    | putOff e => exact ⟨4, _, by decide, c3, fun _ _ _ _ h => h⟩
    | close => exact ⟨4, _, by decide, c4, fun _ _ _ _ h => h⟩
    | lay => exact ⟨4, _, by decide, c5, fun _ _ _ _ h => h⟩
    | rest => exact ⟨1, _, by decide, c6, chk_none (.inr (.inl rfl))⟩
    | point c => exact ⟨1, _, by decide, c7, chk_none (.inr (.inr rfl))⟩
  · cases m with
    | matter f t ch => exact ⟨1, _, by decide, k0, kp_none (.inl rfl)⟩
    | change e => exact ⟨4, _, by decide, k1, fun _ _ _ _ h => h⟩
    | mend e => exact ⟨4, _, by decide, k2, fun _ _ _ _ h => h⟩
    | putOff e => exact ⟨2, _, by decide, k3, fun _ _ _ _ h => h⟩
    | close => exact ⟨2, _, by decide, k4, fun _ _ _ _ h => h⟩
    | lay => exact ⟨2, _, by decide, k5, fun _ _ _ _ h => h⟩
    | rest => exact ⟨2, _, by decide, k6, fun _ _ _ _ h => h⟩
    | point c => exact ⟨1, _, by decide, k7, kp_none (.inr rfl)⟩
theorem look_check (q : Addr) (m : Mt) : (m.fs q).lookup ("check" : Str) = none := by cases m <;> rfl
theorem look_keep (q : Addr) (m : Mt) : (m.fs q).lookup ("keep" : Str) = none := by cases m <;> rfl
--SEG
/-- a chamber in its forms -/
structure Std (K : PySem.W.Frag) (N : Nat) (L : La) (s : ChSt) (om : Om) : Prop where
  ch : Ch (ka K) (kC K) L s om
  wf : WF s
  bd : Bnd N s
  nn : N < 900
theorem Std.fit {N : Nat} {L : La} {s : ChSt} {om : Om} (h : Std K N L s om) : Fit s := h.wf.fit h.bd (by have := h.nn; omega)
theorem Std.fr {N : Nat} {L L1 L1' : La} {ct ct' : Ct} {s : ChSt} {om om' : Om} (h : Std K N L s om) (A : Apart L1 ct L (s.ct (ka K) (kC K) L)) (f : Fr L1 ct om L1' ct' om') : Std K N L s om' ∧ Apart L1' ct' L (s.ct (ka K) (kC K) L) := ⟨⟨(h.ch.fr A f).1, h.wf, h.bd, h.nn⟩, (h.ch.fr A f).2⟩
theorem Std.ext {N : Nat} {L : La} {s : ChSt} {om om' : Om} (h : Std K N L s om) (E : Ext om om') : Std K N L s om' := ⟨h.ch.ext E, h.wf, h.bd, h.nn⟩
theorem Std.step {N : Nat} {L L' : La} {s : ChSt} {om om' : Om} {d : Dd} (h : Std K N L s om) (hd : okD d) (hr : s.ref d = none) (nx : Nx (ka K) (kC K) L s om L' (s.aft d) om') (hn : N + 1 < 900) : Std K (N + 1) L' (s.aft d) om' := by
  have e : s.step d = s.aft d := by unfold ChSt.step; rw [hr]
  exact ⟨nx.ch, e ▸ h.wf.step d, e ▸ h.bd.step h.wf hd, hn⟩
/-- a deed is done or refused -/
structure Dn (K : PySem.W.Frag) (e : Dd) (L : La) (s : ChSt) (om : Om) (Q : DK) (R : Value → List (Str × D) → Om → Prop) : Prop where
  no : ∀ r, s.ref e = some r → ∀ om', Ext om om' → R (.ref (r.cls K)) r.fs om'
  ok : s.ref e = none → ∀ L' om', Nx (ka K) (kC K) L s om L' (s.aft e) om' → Q (s.ans e).d om'
def G_Chamber_move : Fs := fun ds om Q R => ∃ L s N x t, ds = [.obj (L .c), x] ∧ Std K N L s om ∧ TdAt om x t ∧ TdOut L (s.ct (ka K) (kC K) L) x ∧ okT t ∧ Dn K (.mv t) L s om Q R
theorem ok_Chamber_move (B : Blt mg) (A : ChA K) (Mq : Mots P w K mg base) (Ac : Acts P w K mg base) (D1 : DefOk P w K mg base "motion_of" 3 1 (G_motion_of (ka K))) (xf : XcF P w K mg base "Barred" "bar" (He.ga K "Barred")) (M1 : MethOk P w K mg base (kC K) "bar_now" 3 1 (G_Chamber_bar_now (K := K))) (M2 : MethOk P w K mg base (kC K) "note" 4 2 (G_Chamber_note (K := K)))
    (F : Df K d_Chamber_move f fd) : FnOk P w K mg base (L2.CX P w) 5 f fd ["self", "told"] (spD K 2 (G_Chamber_move (K := K))) := by
  refine def_ok' F sc_Chamber_move rfl N_Chamber_move rfl (by decide +kernel) ?_
  rintro X rfl rfl rfl rfl rfl ⟨nN, nd, sc, calm, fn, room, un, pass, stk, frm, exs⟩ ⟨⟨_, n0⟩, ⟨_, n1⟩, ⟨n2, l2⟩, _⟩ om ds Q Rr hl ⟨L, s, N, x, t, rfl, std, hx, ho, hok, dn⟩
  exact "st"
  have sz : sizeLine = 16777216 := sizeLine_eq
  have ch := std.ch
  have ft := std.fit
  refine l2.callX nd D1 (Room.mono room (by decide)) (ds := [x]) (by exact "av") rfl ⟨x, t, rfl, hx, fun a q om1 ha hq hne A1 E => ?_⟩ (by exact "gl") (by decide) rfl rfl
  exact "ro"
  have ch1 : Ch (ka X.K) (kC X.K) L s om1 := ch.ext E
  have hc := ch1.hc
  have pu1 := pu_barn ch1 ft
  have hrk : t.mk.rank = t.rank := by unfold Mt.rank; rw [Mt.td_mk]
  apply st_when (k := decide (t.mk.rank ≤ s.bar))
  · exact "t"
  · intro h
    have h := of_decide_eq_true h
    refine s_raiseF xf (d := .int s.bar) (by exact "v") (dn.no (.bar s.bar) ?_ om1 E) calm (Room.mono room (by decide)) (by exact "gl")
    show s.lack t = _
    unfold ChSt.lack
    rw [if_pos (by rw [← hrk]; exact h)]
  · intro h
    have h := of_decide_eq_false h
    have hlk : s.lack t = s.check t := by unfold ChSt.lack; rw [if_neg (by rw [← hrk]; exact h)]
    obtain ⟨k, G, hk4, Mc, himp⟩ := Ac.chk t.mk
    refine st_e (e_m (ds := [.obj (L .c)]) (show wv X _ om1 _ (.obj a) from ?_) A1.o (look_check q t.mk) Mc (Room.mono room (by omega)) ?_ rfl (himp _ _ _ _ ⟨t.mk, a, q, L, s, rfl, rfl, A1, ch1, ft, fun hn => ?_, fun r hr => ?_⟩)) rfl
    · exact "v"
    · exact "av"
    · rw [Mt.td_mk] at hn
      have hnone : s.ref (.mv t) = none := by show s.lack t = none; rw [hlk]; exact hn
      have nx := ch.push ha hq hne A1 E
      have b1 := A.motions
      have b2 := A.pile
      have hmo := ch1.hmo
      refine st_append (d := .obj a) (p := L .mo) (ds := s.moD L) (by exact "v") (by exact "v") hmo (by rw [moD_len, sz]; have := ft.mn; omega) ?_
      have ncm : L .c ≠ L .mo := Ch.neF ch1 rfl rfl (by simp)
      have npm : L .pi ≠ L .mo := Ch.neF ch1 rfl rfl (by simp)
      have hc2 : (ups om1 (L .mo) (.lst (s.moD L ++ [.obj a]))) (L .c) = some (.ins (kC X.K) (s.fs L)) := by rw [ups_ne ncm]; exact hc
      have hpi2 : (ups om1 (L .mo) (.lst (s.moD L ++ [.obj a]))) (L .pi) = some (.lst (nums s.pile)) := by rw [ups_ne npm]; exact ch1.hpi
      have hmo2 : (ups om1 (L .mo) (.lst (s.moD L ++ [.obj a]))) (L .mo) = some (.lst (s.moD L ++ [.obj a])) := ups_same
      have hlen : (((s.moD L ++ [D.obj a]).length : Nat) : Int) = (s.mots.length : Int) + 1 := by rw [List.length_append, moD_len]; rfl
      refine st_append (d := num s.mots.length) (p := L .pi) (ds := nums s.pile) (by exact "v") ?_ hpi2 (by rw [nums_len, sz]; have := ft.pn; omega) ?_
      · refine wv_is (d := .int (((s.moD L ++ [D.obj a]).length : Nat) : Int)) (by exact "v") ?_
        rw [hlen]
      have hc3 := nx.ch.hc
      rw [nx.c] at hc3
      refine st_e (e_m (ds := [x]) (show wv X _ _ _ (.obj (L .c)) from ?_) hc3 rfl M2 (Room.mono room (by decide)) ?_ rfl ?_) rfl
      · exact "v"
      · exact "av"
      · refine ⟨_, s.push t, x, .mv t, by rw [nx.c], nx.ch, ft.rn, TdAt.fr nx.fr hx ho, okT.sm std.wf hok (by rw [hlk]; exact hn), fun om2 nx2 => ?_⟩
        have nx3 := nx.trans nx2
        have hc4 := nx3.ch.hc
        have hmo4 := nx3.ch.hmo
        rw [nx3.c] at hc4
        refine ret_v (d := .int ((s.mots.length : Int) + 1)) ?_ (dn.ok hnone _ _ nx3)
        refine wv_is (d := .int (((((s.push t).note (.mv t)).moD (L.push s.mots.length a q)).length : Nat) : Int)) (by exact "v") ?_
        rw [moD_len]
        show D.int (((s.mots ++ [t.mk]).length : Nat) : Int) = _
        rw [List.length_append]
        rfl
    · rw [Mt.td_mk] at hr
      exact dn.no r (by show s.lack t = _; rw [hlk]; exact hr) om1 E
theorem ended_head {s : ChSt} {w : Str} (wf : WF s) {ys : List Nat} {i : Nat} (e : s.pile = ys ++ [i]) : ∀ j r, (s.ended w).pile = j :: r → ∀ x ∈ (s.ended w).aside, x.1 ≠ j := by
  rw [ended_eq e]
  intro j r hj x hx z
  have hj : ys = j :: r := hj
  exact wf.apart hx (i := j) (by rw [e, hj]; simp) (by rw [← z]; exact wf.head_mem hx)
/-- the tail of a vote, of a drop: the close is let go where nothing is pending -/
theorem tail_settle {X : Cx} {F : De} {ro : Ro} {om om0 : Om} {L0 L : La} {s0 s : ChSt} {rest : List Stmt} {j : Nat} {p1 p2 p3 p4 p5 p6 p7 p8 p9 : Pos} (A : ChA X.K) (nx : Nx (ka X.K) (kC X.K) L0 s0 om0 L s om)
    (hk : ∀ om', Nx (ka X.K) (kC X.K) L0 s0 om0 L s.settle om' → ws X F ro om' rest)
    (hw1 : wtv X ro om (.Compare (.Attribute (.Name "self" p1) "pile" p2) [.Eq] [.List [] p3] p4) (decide (s.pile = []))) (hw2 : s.pile = [] → wv X ro om (.Name "self" p5) (.obj (L .c))) :
    ws X F ro om (.If (.Compare (.Attribute (.Name "self" p1) "pile" p2) [.Eq] [.List [] p3] p4) [.Assign [.Attribute (.Name "self" p5) "closed" p6] (.Constant (.bool false) j p7) p8] [] p9 :: rest) := by
  refine st_if hw1 (fun h => ?_) (fun h => ?_)
  · have e : s.pile = [] := of_decide_eq_true h
    refine st_fld (d := .bl false) (p := L .c) (C := kC X.K) (fs := s.fs L) v_bl (hw2 e) nx.ch.hc A.closed (by show 8 < 1000; decide) (ws_nil (hk _ ?_)) rfl
    unfold ChSt.settle
    rw [if_pos e]
    exact nx.trans (nx.ch.setC (s' := { s with closed := false }) rfl rfl rfl rfl rfl)
  · have e : s.pile ≠ [] := of_decide_eq_false h
    refine ws_nil (hk _ ?_)
    unfold ChSt.settle
    rw [if_neg e]
    exact nx
def G_Chamber_drop : Fs := fun ds om Q R => ∃ L s N, ds = [.obj (L .c)] ∧ Std K N L s om ∧ Dn K .drop L s om Q R
theorem ok_Chamber_drop (B : Blt mg) (A : ChA K) (x0 : Xc0 K mg "Nothing" (Rf.nothing.cls K)) (M1 : MethOk P w K mg base (kC K) "ended" 1 2 (G_Chamber_ended (K := K))) (M2 : MethOk P w K mg base (kC K) "note" 4 2 (G_Chamber_note (K := K))) (F : Df K d_Chamber_drop f fd) : FnOk P w K mg base (L2.CX P w) 5 f fd ["self"] (spD K 1 (G_Chamber_drop (K := K))) := by
  refine def_ok' F sc_Chamber_drop rfl N_Chamber_drop rfl (by decide +kernel) ?_
  rintro X rfl rfl rfl rfl rfl ⟨nN, nd, sc, calm, fn, room, un, pass, stk, frm, exs⟩ ⟨⟨n0, _⟩, _⟩ om ds Q Rr hl ⟨L, s, N, rfl, std, dn⟩
  exact "st"
  have sz : sizeLine = 16777216 := sizeLine_eq
  have ch := std.ch
  have ft := std.fit
  have hc := ch.hc
  have hpi := ch.hpi
  have a1 := A.pile
  apply st_when
  · exact "t"
  · intro h
    have e : s.pile = [] := of_decide_eq_true h
    exact s_raise x0 (dn.no .nothing (by simp only [ChSt.ref, if_pos e]) om Ext.refl) calm (by exact "gl")
  · intro h
    have e : s.pile ≠ [] := of_decide_eq_false h
    have hnone : s.ref .drop = none := by simp only [ChSt.ref, if_neg e]
    cases hg : s.pile.getLast? with
    | none => exact absurd (List.getLast?_eq_none_iff.mp hg) e
    | some i =>
      have e := last_of hg
      refine st_e (e_m (ds := [.str "dropped"]) (show wv X _ om _ (.obj (L .c)) from ?_) hc rfl M1 (Room.mono room (by decide)) ?_ rfl ⟨L, s, _, i, "dropped", rfl, ch, ft, e, fun om1 nx1 => ?_⟩) rfl
      · exact "v"
      · exact "av"
      have hdec : s.dec "dropped" = (s.ended "dropped").settle := by rw [dec_eq e, if_neg (by decide)]
      have hc1 := nx1.ch.hc
      have hpi1 := nx1.ch.hpi
      refine tail_settle A nx1 (fun om2 nx2 => ?_) ?_ (fun _ => ?_)
      · rw [← hdec] at nx2
        have hc2 := nx2.ch.hc
        refine st_e (e_m (ds := [.tup [.str "drop"]]) (show wv X _ om2 _ (.obj (L .c)) from ?_) hc2 rfl M2 (Room.mono room (by decide)) ?_ rfl ⟨L, s.dec "dropped", _, .drop, rfl, nx2.ch, by rw [Bnd.dec_rows]; exact ft.rn, rfl, trivial, fun om3 nx3 => ?_⟩) rfl
        · exact "v"
        · exact "av"
        · exact ret_v (d := .str "dropped") (by exact "v") (dn.ok hnone _ _ (nx2.trans nx3))
      · exact "t"
      · exact "v"
def G_Chamber_vote : Fs := fun ds om Q R => ∃ L s N a n, ds = [.obj (L .c), .int a, .int n] ∧ Std K N L s om ∧ okD (.vote a n) ∧ Dn K (.vote a n) L s om Q R
theorem ok_Chamber_vote (B : Blt mg) (A : ChA K) (Mq : Mots P w K mg base) (Ac : Acts P w K mg base) (x0 : Xc0 K mg "Nothing" (Rf.nothing.cls K)) (x1 : Xc0 K mg "TooMany" (Rf.tooMany.cls K)) (D1 : DefOk P w K mg base "is_kept" 1 3 G_is_kept) (M0 : MethOk P w K mg base (kC K) "top" 1 1 (G_Chamber_top (K := K))) (M1 : MethOk P w K mg base (kC K) "ended" 1 2 (G_Chamber_ended (K := K))) (M2 : MethOk P w K mg base (kC K) "note" 4 2 (G_Chamber_note (K := K)))
    (F : Df K d_Chamber_vote f fd) : FnOk P w K mg base (L2.CX P w) 5 f fd ["self", "ayes", "noes"] (spD K 3 (G_Chamber_vote (K := K))) := by
  refine def_ok' F sc_Chamber_vote rfl N_Chamber_vote rfl (by decide +kernel) ?_
  rintro X rfl rfl rfl rfl rfl ⟨nN, nd, sc, calm, fn, room, un, pass, stk, frm, exs⟩ ⟨⟨n0, _⟩, ⟨_, n1⟩, ⟨_, n2⟩, ⟨m3, l3⟩, ⟨m4, l4⟩, _⟩ om ds Q Rr hl ⟨L, s, N, a, n, rfl, std, hok, dn⟩
  exact "st"
  have sz : sizeLine = 16777216 := sizeLine_eq
  have ch := std.ch
  have ft := std.fit
  have hc := ch.hc
  have hpi := ch.hpi
  have a1 := A.pile
  have a2 := A.seats
  apply st_when
  · exact "t"
  · intro h
    have e : s.pile = [] := of_decide_eq_true h
    exact s_raise x0 (dn.no .nothing (by simp only [ChSt.ref, if_pos e]) om Ext.refl) calm (by exact "gl")
  intro h
  have e : s.pile ≠ [] := of_decide_eq_false h
  apply st_when
  · exact "t"
  · intro h
    have h := of_decide_eq_true h
    exact s_raise x1 (dn.no .tooMany (by simp only [ChSt.ref, if_neg e, if_pos h]) om Ext.refl) calm (by exact "gl")
  intro h
  have h := of_decide_eq_false h
  have hnone : s.ref (.vote a n) = none := by simp only [ChSt.ref, if_neg e, if_neg h]
  cases hg : s.pile.getLast? with
  | none => exact absurd (List.getLast?_eq_none_iff.mp hg) e
  | some i =>
    have e := last_of hg
    have hi : i < s.mots.length := ft.pl i (by rw [e]; simp)
    have A1 := ch.hm hi
    have pu1 := pu_top ch ft
    have htop : topD L s = .obj (L (.m i)) := by unfold topD; rw [hg]
    rw [htop] at pu1
    have hwd : s.wd a n = if (s.mt i).kept a n = true then ("kept" : Str) else "lost" := by unfold ChSt.wd ChSt.top; rw [hg]; rfl
    exact "asg"
    refine l3.ifV nd (k := keptB (s.mt i).need a n) (d := .str "kept") (d0 := .str "lost") ?_ (fun _ => by exact "v") rfl ?_ rfl
    · exact "t"
    have hsl : (if keptB (s.mt i).need a n = true then D.str "kept" else .str "lost") = .str (s.wd a n) := by rw [hwd, kept_m]; split <;> rfl
    rw [hsl]
    exact "ro"
    generalize hw : s.wd a n = wd at *
    refine l4.setE nd (e_m (ds := [.str wd]) (show wv X _ om _ (.obj (L .c)) from ?_) hc rfl M1 (Room.mono room (by decide)) ?_ rfl ⟨L, s, _, i, wd, rfl, ch, ft, e, fun om1 nx1 => ?_⟩) rfl
    · exact "v"
    · exact "av"
    exact "ro"
    have hwf1 := ended_head (w := wd) std.wf e
    have ko := std.wf.keepOk (w := wd) e
    have ft1 := ft.ended (w := wd) e (by have := std.bd.dl; have := std.nn; omega)
    have hi1 : i < (s.ended wd).mots.length := by rw [ended_eq e]; exact hi
    have hmt1 : (s.ended wd).mt i = s.mt i := by rw [ended_eq e]; rfl
    have A2 := nx1.ch.hm hi1
    rw [hmt1] at A2
    have hdec : s.dec wd = (if wd = "kept" then (s.ended wd).keep (s.mt i) else s.ended wd).settle := dec_eq e
    refine ws_seq (fun ro' om' => ro' = [some (.obj (L .c)), some (.int a), some (.int n), some (.str wd), some (.obj (L (.m i)))] ∧ ∃ L', Nx (ka X.K) (kC X.K) L s om L' (if wd = "kept" then (s.ended wd).keep (s.mt i) else s.ended wd) om') ?_ ?_
    · apply s_if (k := decide (wd = "kept"))
      · exact "t"
      · intro hk
        have hk := of_decide_eq_true hk
        rw [if_pos hk]
        obtain ⟨k, G, hk4, Mc, himp⟩ := Ac.kep (s.mt i)
        refine st_e (e_m (ds := [.obj (L .c)]) (show wv X _ om1 _ (.obj (L (.m i))) from ?_) A2.o (look_keep _ _) Mc (Room.mono room (by omega)) ?_ rfl (himp _ _ _ _ ⟨s.mt i, _, _, L, s.ended wd, rfl, rfl, A2, nx1.ch, ft1, ko, ft.mb i hi, hwf1, fun L' om2 nx2 => ws_nil ⟨rfl, L', nx1.trans nx2⟩⟩)) rfl
        · exact "v"
        · exact "av"
      · intro hk
        have hk := of_decide_eq_false hk
        rw [if_neg hk]
        exact ws_nil ⟨rfl, L, nx1⟩
    · rintro ro' om2 ⟨rfl, L', nx2⟩
      have hcc := nx2.c
      have hc2 := nx2.ch.hc
      have hpi2 := nx2.ch.hpi
      rw [hcc] at hc2
      refine tail_settle A nx2 (fun om3 nx3 => ?_) ?_ (fun _ => ?_)
      · rw [← hdec] at nx3
        have hc3 := nx3.ch.hc
        rw [hcc] at hc3
        refine st_e (e_m (ds := [.tup [.str "vote", .int a, .int n]]) (show wv X _ om3 _ (.obj (L .c)) from ?_) hc3 rfl M2 (Room.mono room (by decide)) ?_ rfl ⟨L', s.dec wd, _, .vote a n, by rw [hcc]; rfl, nx3.ch, by rw [Bnd.dec_rows]; exact ft.rn, rfl, hok, fun om4 nx4 => ?_⟩) rfl
        · exact "v"
        · exact "av"
        · have nx5 := nx3.trans nx4
          refine ret_v (d := .str wd) (by exact "v") ?_
          have := dn.ok hnone L' om4 (by
            show Nx _ _ L s om L' ((s.dec (s.wd a n)).note (.vote a n)) om4
            rw [hw]
            exact nx5)
          rw [show (s.ans (.vote a n)).d = .str wd from by show D.str (s.wd a n) = _; rw [hw]] at this
          exact this
      · exact "t"
      · rw [hcc]
        exact "v"
--SEG
def G_Chamber_take : Fs := fun ds om Q R => ∃ L s N k, ds = [.obj (L .c), .int k] ∧ Std K N L s om ∧ Dn K (.take k) L s om Q R
theorem ok_Chamber_take (B : Blt mg) (A : ChA K) (xf : XcF P w K mg base "Barred" "bar" (He.ga K "Barred")) (x0 : Xc0 K mg "NoAside" (Rf.noAside.cls K)) (xy : XcF P w K mg base "NotYet" "sitting" (He.ga K "NotYet")) (M1 : MethOk P w K mg base (kC K) "bar_now" 3 1 (G_Chamber_bar_now (K := K))) (M2 : MethOk P w K mg base (kC K) "note" 4 2 (G_Chamber_note (K := K)))
    (F : Df K d_Chamber_take f fd) : FnOk P w K mg base (L2.CX P w) 5 f fd ["self", "number"] (spD K 2 (G_Chamber_take (K := K))) := by
  refine def_ok' F sc_Chamber_take rfl N_Chamber_take rfl (by decide +kernel) ?_
  rintro X rfl rfl rfl rfl rfl ⟨nN, nd, sc, calm, fn, room, un, pass, stk, frm, exs⟩ ⟨⟨n0, _⟩, ⟨n1, _⟩, ⟨n2, l2⟩, ⟨n3, l3⟩, _⟩ om ds Q Rr hl ⟨L, s, N, k, rfl, std, dn⟩
  exact "st"
  have sz : sizeLine = 16777216 := sizeLine_eq
  have ch := std.ch
  have ft := std.fit
  have hc := ch.hc
  have hpi := ch.hpi
  have has := ch.has_
  have pu1 := pu_barn ch ft
  have a1 := A.pile
  have a2 := A.aside
  have a3 := A.sitting
  apply st_when
  · exact "t"
  · intro h
    have e : s.pile ≠ [] := by simpa using h
    exact s_raiseF xf (d := .int s.bar) (by exact "v") (dn.no (.bar s.bar) (by simp only [ChSt.ref, if_pos e]) om Ext.refl) calm (Room.mono room (by decide)) (by exact "gl")
  intro h
  have e : s.pile = [] := by simpa using h
  have hne : ¬ s.pile ≠ [] := fun z => z e
  have hn := c_notInD (X := X) (k := .inl k) (un_1 un) has
  rw [hasA_asD] at hn
  cases hf : s.findA k with
  | none =>
    rw [hf] at hn
    apply st_yes (k := !(none : Option As).isSome)
    · (with_reducible apply tv_cmp)
      · exact "v"
      · exact "v"
      · exact hn
      · exact "sd"
    · rfl
    exact s_raise x0 (dn.no .noAside (by simp only [ChSt.ref, if_neg hne, hf]) om Ext.refl) calm (by exact "gl")
  | some x =>
    rw [hf] at hn
    obtain ⟨hx, hk⟩ := findA_key hf
    have nd1 := std.wf.keys_nodup
    apply st_no (k := !(some x).isSome)
    · (with_reducible apply tv_cmp)
      · exact "v"
      · exact "v"
      · exact hn
      · exact "sd"
    · rfl
    have hget : dGet (s.asD L) (.inl k) = some (.tup [.int x.2.1, .obj (L (.ap x.1))]) := by rw [findA_asD, hf]; rfl
    have hix : Ix X om (.obj (L .as)) (.int k) (.tup [.int x.2.1, .obj (L (.ap x.1))]) := ix_d (k := .inl k) has hget
    refine l2.un2 l3 nd calm ((show wv X _ om _ (.tup [.int x.2.1, .obj (L (.ap x.1))]) from ?_) _ _ ⟨_, _, rfl, ?_⟩) rfl rfl rfl rfl rfl
    · exact "v"
    exact "ro"
    apply st_when
    · exact "t"
    · intro h
      have h := of_decide_eq_true h
      exact s_raiseF xy (d := .int x.2.1) (by exact "v") (dn.no (.notYet x.2.1) (by simp only [ChSt.ref, if_neg hne, hf, if_pos h]) om Ext.refl) calm (Room.mono room (by decide)) (by exact "gl")
    intro h
    have h := of_decide_eq_false h
    have hnone : s.ref (.take k) = none := by simp only [ChSt.ref, if_neg hne, hf, if_neg h]
    refine st_dpop (p := L .as) (k := .inl k) (kvs := s.asD L) (z := .tup [.int x.2.1, .obj (L (.ap x.1))]) (by exact "v") (show wv X _ om _ (.int k) from by exact "v") has hget ?_ rfl rfl rfl rfl rfl rfl
    have nx := ch.unside nd1 hx
    have hk' : (.inl ((x.1 : Int) + 1) : Key) = .inl k := by rw [hk]
    rw [hk'] at nx
    have nca : L .c ≠ L .as := Ch.neF ch rfl rfl (by simp)
    have hc2 : (ups om (L .as) (.dct (dDrop (s.asD L) (.inl k)))) (L .c) = some (.ins (kC X.K) (s.fs L)) := by rw [ups_ne nca]; exact hc
    have ef : (s.unside x).fs (L.unside x.1) = putD "pile" (.obj (L (.ap x.1))) (s.fs L) := by
      unfold ChSt.fs
      simp only [La.unside_pi, La.unside_ne (L := L) (i := x.1) (x := .mo) (by simp) (by simp), La.unside_ne (L := L) (i := x.1) (x := .as) (by simp) (by simp), La.unside_ne (L := L) (i := x.1) (x := .de) (by simp) (by simp), La.unside_ne (L := L) (i := x.1) (x := .ro) (by simp) (by simp)]
      rfl
    rw [ef] at nx
    refine st_fld (d := .obj (L (.ap x.1))) (p := L .c) (C := kC X.K) (fs := s.fs L) (by exact "v") (by exact "v") hc2 A.pile (by show 8 < 1000; decide) ?_ (by exact "sd")
    have hc3 := nx.ch.hc
    rw [nx.c] at hc3
    refine st_e (e_m (ds := [.tup [.str "take", .int k]]) (show wv X _ _ _ (.obj (L .c)) from ?_) hc3 rfl M2 (Room.mono room (by decide)) ?_ rfl ⟨_, s.unside x, _, .take k, by rw [nx.c]; rfl, nx.ch, ft.rn, rfl, ?_, fun om4 nx4 => ?_⟩) rfl
    · exact "v"
    · exact "av"
    · have := std.wf.ltA hx (std.wf.head_mem hx)
      have := ft.mn
      exact ⟨by omega, by rw [hk]; omega⟩
    · refine ret_v (d := .int k) (by exact "v") (dn.ok hnone (L.unside x.1) om4 ?_)
      rw [aft_take hf]
      exact nx.trans nx4
def G_Chamber_motion : Fs := fun ds om Q R => ∃ L s k, ds = [.obj (L .c), .int k] ∧ Ch (ka K) (kC K) L s om ∧ (∀ i : Nat, k = (i : Int) + 1 → i < s.mots.length → Q (s.mt i).td.d om) ∧ (¬ (1 ≤ k ∧ k ≤ (s.mots.length : Int)) → R (.ref (He.ga K "NoNumber")) [] om)
theorem ok_Chamber_motion (B : Blt mg) (A : ChA K) (Mq : Mots P w K mg base) (x0 : Xc0 K mg "NoNumber" (He.ga K "NoNumber")) (F : Df K d_Chamber_motion f fd) : FnOk P w K mg base (L2.CX P w) 2 f fd ["self", "number"] (spD K 2 (G_Chamber_motion (K := K))) := by
  refine def_ok' F sc_Chamber_motion rfl N_Chamber_motion rfl (by decide +kernel) ?_
  rintro X rfl rfl rfl rfl rfl ⟨nN, nd, sc, calm, fn, room, un, pass, stk, frm, exs⟩ ⟨⟨n0, _⟩, ⟨n1, _⟩, _⟩ om ds Q Rr hl ⟨L, s, k, rfl, ch, q, qx⟩
  exact "st"
  have hc := ch.hc
  have hmo := ch.hmo
  have a1 := A.motions
  have hlen : (((s.moD L).length : Nat) : Int) = (s.mots.length : Int) := by rw [moD_len]
  apply st_when
  · exact "t"
  · intro h
    rw [hlen] at h
    exact s_raise x0 (qx fun ⟨z1, z2⟩ => by rw [decide_eq_true z1, decide_eq_true z2] at h; cases h) calm (by exact "gl")
  · intro h
    rw [hlen] at h
    have h : 1 ≤ k ∧ k ≤ (s.mots.length : Int) := by simpa using h
    obtain ⟨i, rfl⟩ : ∃ i : Nat, k = (i : Int) + 1 := ⟨(k - 1).toNat, by omega⟩
    have hi : i < s.mots.length := by omega
    have A1 := ch.hm hi
    have hat := at_mo (L := L) hi
    refine ret_v (d := (s.mt i).td.d) ?_ (q i rfl hi)
    exact "v"
theorem pu_motion {om : Om} {L : La} {s : ChSt} {i : Nat} (ch : Ch (ka K) (kC K) L s om) (hi : i < s.mots.length) : Pu (G_Chamber_motion (K := K)) om [.obj (L .c), .int ((i : Int) + 1)] (s.mt i).td.d := .mk fun Q R q => ⟨L, s, _, rfl, ch, fun j hj _ => by
  have : i = j := by omega
  subst this
  exact q, fun z => absurd (by omega) z⟩
def G_Chamber_state : Fs := fun ds om Q _ => ∃ L s, ds = [.obj (L .c)] ∧ Ch (ka K) (kC K) L s om ∧ s.aside.length < 64 ∧ (s.aside.map (·.1)).Nodup ∧ Q s.stateD om
theorem ok_Chamber_state (B : Blt mg) (A : ChA K) (F : Df K d_Chamber_state f fd) : FnOk P w K mg base (L2.CX P w) 1 f fd ["self"] (spD K 1 (G_Chamber_state (K := K))) := by
  refine def_ok' F sc_Chamber_state rfl N_Chamber_state rfl (by decide +kernel) ?_
  rintro X rfl rfl rfl rfl rfl ⟨nN, nd, sc, calm, fn, room, un, pass, stk, frm, exs⟩ ⟨⟨n0, _⟩, ⟨n1, l1⟩, ⟨n2, l2⟩, ⟨n3, l3⟩, ⟨n4, l4⟩, _⟩ om ds Q Rr hl ⟨L, s, rfl, ch, h64, ndk, q⟩
  exact "st"
  have sz : sizeLine = 16777216 := sizeLine_eq
  have a1 := A.pile
  have a2 := A.aside
  have a3 := A.sitting
  have a4 := A.closed
  have a5 := A.decided
  refine Lo.new (ds := []) l1 nd (by exact "n") (fun p hp => ?_) (by exact "sd")
  exact "ro"
  have hkeys : (s.asD L).map (·.1) = (s.aside.map fun x => (x.1 : Int) + 1).map Sum.inl := by unfold ChSt.asD; rw [List.map_map, List.map_map]; rfl
  have std : ∀ o, Ch (ka X.K) (kC X.K) L s (ups om p (.lst o)) := fun o => ch.ext (Ext.ups hp)
  apply st_for (g := gName 2) (U := fun d ro => ro.set 2 (some d)) (I := fun i ro' om2 => om2 = ups om p (.lst (s.asT.take i)) ∧ ∃ u v w, ro' = [some (.obj (L .c)), some (.obj p), u, v, w])
  exact "fo"
  case hi =>
    apply it_L (x := .lst ((s.sortA.map fun x => (x.1 : Int) + 1).map D.int)) (ds := (s.sortA.map fun x => (x.1 : Int) + 1).map D.int)
    · have hc1 := (std []).hc
      have ha1 := (std []).has_
      (with_reducible apply wn.v)
      (with_reducible apply n_bi)
      · exact "av"
      · exact B.bSorted
      · exact b_sortedD calm ha1 hkeys (by rw [List.length_map]; exact h64) ChSt.sortA_keys
      · exact "gl"
      · exact "sd"
      · exact "sd"
    · exact Lr.im
  case h0 => exact ⟨by rw [List.take_zero], _, _, _, rfl⟩
  case hP => exact fun _ _ _ _ => Lr.im
  case hd =>
    rintro ro' om2 ⟨rfl, u, v, w, rfl⟩
    rw [List.length_map, List.length_map, show s.sortA.length = s.asT.length from by unfold ChSt.asT; rw [List.length_map], List.take_length]
    refine ws_tree 1 p rfl ups_same ?_
    rw [dels_ups hp]
    exact "ro"
    have hc := ch.hc
    have hpi := ch.hpi
    have hde := ch.hde
    refine ret_v (d := s.stateD) ?_ q
    unfold ChSt.stateD
    exact "v"
  case hs =>
    rintro i d ro' om2 hi ⟨rfl, u, v, w, rfl⟩
    obtain ⟨k, hk, rfl⟩ := map_item hi
    obtain ⟨x, hx, rfl⟩ := map_item hk
    have hxm := ChSt.sortA_mem (List.mem_of_getElem? hx)
    have ch2 := std (s.asT.take i)
    have hc := ch2.hc
    have has := ch2.has_
    have hap := Ch.hap ch2 ndk hxm
    have hfa : s.findA ((x.1 : Int) + 1) = some x := by
      unfold ChSt.findA
      have := find_key ndk hxm
      rw [← this]
      congr 1
      funext y
      congr 1
      exact propext ⟨fun h => by omega, fun h => by omega⟩
    have hget : dGet (s.asD L) (.inl ((x.1 : Int) + 1)) = some (.tup [.int x.2.1, .obj (L (.ap x.1))]) := by rw [findA_asD, hfa]; rfl
    have hix : Ix X (ups om p (.lst (s.asT.take i))) (.obj (L .as)) (.int ((x.1 : Int) + 1)) (.tup [.int x.2.1, .obj (L (.ap x.1))]) := ix_d (k := .inl ((x.1 : Int) + 1)) has hget
    exact "ro"
    refine l3.un2 l4 nd calm ((show wv X _ _ _ (.tup [.int x.2.1, .obj (L (.ap x.1))]) from ?_) _ _ ⟨_, _, rfl, ?_⟩) rfl rfl rfl rfl rfl
    · exact "v"
    exact "ro"
    have hil : i < s.asT.length := by
      unfold ChSt.asT
      rw [List.length_map]
      exact (List.getElem?_eq_some_iff.mp hx).1
    have hat : s.asT[i]? = some (.tup [num x.1, .int x.2.1, .lst (nums x.2.2)]) := by unfold ChSt.asT; rw [List.getElem?_map, hx]; rfl
    have hsz : (s.asT.take i).length < sizeLine := by
      have e1 : s.asT.length = s.aside.length := by unfold ChSt.asT; rw [List.length_map, ChSt.sortA_len]
      rw [List.length_take, sz]
      omega
    refine st_append (d := .tup [num x.1, .int x.2.1, .lst (nums x.2.2)]) (p := p) (ds := s.asT.take i) (by exact "v") (by exact "v") ups_same hsz ?_
    rw [ups_ups]
    refine ws_nil ⟨?_, _, _, _, rfl⟩
    rw [List.take_succ_eq_append_getElem hil, (List.getElem?_eq_some_iff.mp hat).2]
theorem pu_state {om : Om} {L : La} {s : ChSt} (ch : Ch (ka K) (kC K) L s om) (h : s.aside.length < 64) (n : (s.aside.map (·.1)).Nodup) : Pu (G_Chamber_state (K := K)) om [.obj (L .c)] s.stateD := .mk fun Q R q => ⟨L, s, rfl, ch, h, n, q⟩
def G_Chamber_init : Fs := fun ds om Q _ => ∃ a n, ds = [.obj a, .int n] ∧ om a = some (.ins (kC K) []) ∧ ∀ L om', Ch (ka K) (kC K) L (.new n) om' → L .c = a → (∀ b o, b ≠ a → om b = some o → om' b = some o ∧ Out L ((ChSt.new n).ct (ka K) (kC K) L) b) → Q .non om'
theorem ok_Chamber_init (B : Blt mg) (A : ChA K) (F : Df K d_Chamber_init f fd) : FnOk P w K mg base (L2.CX P w) 1 f fd ["self", "seats"] (spD K 2 (G_Chamber_init (K := K))) := by
  refine def_ok' F sc_Chamber_init rfl N_Chamber_init rfl (by decide +kernel) ?_
  rintro X rfl rfl rfl rfl rfl ⟨nN, nd, sc, calm, fn, room, un, pass, stk, frm, exs⟩ ⟨⟨n0, _⟩, ⟨n1, _⟩, _⟩ om ds Q Rr hl ⟨a, n, rfl, ha, q⟩
  exact "st"
  refine st_fld (d := .int n) (p := a) (C := kC X.K) (fs := []) (by exact "v") (by exact "v") ha A.seats (by decide) ?_ (by exact "sd")
  refine st_fld (d := .int 1) (p := a) (C := kC X.K) (by exact "v") (by exact "v") ups_same A.sitting (by show 1 < 1000; decide) ?_ (by exact "sd")
  rw [ups_ups]
  refine st_fld (d := .bl false) (p := a) (C := kC X.K) (by exact "v") (by exact "v") ups_same A.closed (by show 2 < 1000; decide) ?_ (by exact "sd")
  rw [ups_ups]
  have up2 : ∀ {om' : Om} {q : Addr} {o : DO}, om' a ≠ none → om' q = none → (ups om' q o) a = om' a := fun h1 h2 => ups_ne fun z => h1 (z ▸ h2)
  refine st_fldN (ds := []) (p := a) (C := kC X.K) (by exact "n") (fun _ _ => by exact "v") ups_same A.motions (by show 3 < 1000; decide) (fun p1 h1 e1 => ?_) (by exact "sd")
  refine st_fldN (ds := []) (p := a) (C := kC X.K) (by exact "n") (fun _ _ => by exact "v") ups_same A.pile (by show 4 < 1000; decide) (fun p2 h2 e2 => ?_) (by exact "sd")
  refine ws_cons (s_fld (e_dnew fun p3 h3 => (show wv X _ _ _ (.obj a) from ?_) _ _ ⟨a, kC X.K, putD "pile" (.obj p2) (putD "motions" (.obj p1) (putD "closed" (.bl false) (putD "sitting" (.int 1) (putD "seats" (.int n) [])))), rfl, ?_, A.aside, by show 5 < 1000; decide, ?_⟩) (by exact "sd"))
  · exact "v"
  · have e3 : a ≠ p3 := fun z => by rw [← z, ups_same] at h3; cases h3
    rw [ups_ne e3, ups_same]
  have e3 : p3 ≠ a := fun z => by rw [z, ups_same] at h3; cases h3
  refine st_fldN (ds := []) (p := a) (C := kC X.K) (by exact "n") (fun _ _ => by exact "v") ups_same A.decided (by show 6 < 1000; decide) (fun p4 h4 e4 => ?_) (by exact "sd")
  refine st_fldN (ds := []) (p := a) (C := kC X.K) (by exact "n") (fun _ _ => by exact "v") ups_same A.rows (by show 7 < 1000; decide) (fun p5 h5 e5 => ?_) (by exact "sd")
  have k1 : om p1 = none := by rwa [ups_ne e1] at h1
  have n21 : p2 ≠ p1 := fun z => by rw [z, ups_ne e1, ups_same] at h2; cases h2
  have k2 : om p2 = none := by rwa [ups_ne e2, ups_ne n21, ups_ne e2] at h2
  have n32 : p3 ≠ p2 := fun z => by rw [z, ups_ne e2, ups_same] at h3; cases h3
  have n31 : p3 ≠ p1 := fun z => by rw [z, ups_ne e1, ups_ne (Ne.symm n21), ups_ne e1, ups_same] at h3; cases h3
  have k3 : om p3 = none := by rwa [ups_ne e3, ups_ne n32, ups_ne e3, ups_ne n31, ups_ne e3] at h3
  have n43 : p4 ≠ p3 := fun z => by rw [z, ups_ne e3, ups_same] at h4; cases h4
  have n42 : p4 ≠ p2 := fun z => by rw [z, ups_ne e2, ups_ne (Ne.symm n32), ups_ne e2, ups_same] at h4; cases h4
  have n41 : p4 ≠ p1 := fun z => by rw [z, ups_ne e1, ups_ne (Ne.symm n31), ups_ne e1, ups_ne (Ne.symm n21), ups_ne e1, ups_same] at h4; cases h4
  have k4 : om p4 = none := by rwa [ups_ne e4, ups_ne n43, ups_ne e4, ups_ne n42, ups_ne e4, ups_ne n41, ups_ne e4] at h4
  have n54 : p5 ≠ p4 := fun z => by rw [z, ups_ne e4, ups_same] at h5; cases h5
  have n53 : p5 ≠ p3 := fun z => by rw [z, ups_ne e3, ups_ne (Ne.symm n43), ups_ne e3, ups_same] at h5; cases h5
  have n52 : p5 ≠ p2 := fun z => by rw [z, ups_ne e2, ups_ne (Ne.symm n42), ups_ne e2, ups_ne (Ne.symm n32), ups_ne e2, ups_same] at h5; cases h5
  have n51 : p5 ≠ p1 := fun z => by rw [z, ups_ne e1, ups_ne (Ne.symm n41), ups_ne e1, ups_ne (Ne.symm n31), ups_ne e1, ups_ne (Ne.symm n21), ups_ne e1, ups_same] at h5; cases h5
  have k5 : om p5 = none := by rwa [ups_ne e5, ups_ne n54, ups_ne e5, ups_ne n53, ups_ne e5, ups_ne n52, ups_ne e5, ups_ne n51, ups_ne e5] at h5
  refine ws_nil (q (La.of a p1 p2 p3 p4 p5) _ (Lay.six (fun k o hk => ?_) (fun k hk => ?_) ?_) rfl (fun b o hb ho => ?_))
  · cases k with
    | c => cases hk; show (ups _ a _) a = _; rw [ups_same]; rfl
    | mo => cases hk; show (ups _ a _) p1 = _; rw [ups_ne e1, ups_ne (Ne.symm n51), ups_ne e1, ups_ne (Ne.symm n41), ups_ne e1, ups_ne (Ne.symm n31), ups_ne e1, ups_ne (Ne.symm n21), ups_ne e1, ups_same]; rfl
    | pi => cases hk; show (ups _ a _) p2 = _; rw [ups_ne e2, ups_ne (Ne.symm n52), ups_ne e2, ups_ne (Ne.symm n42), ups_ne e2, ups_ne (Ne.symm n32), ups_ne e2, ups_same]; rfl
    | as => cases hk; show (ups _ a _) p3 = _; rw [ups_ne e3, ups_ne (Ne.symm n53), ups_ne e3, ups_ne (Ne.symm n43), ups_ne e3, ups_same]; rfl
    | de => cases hk; show (ups _ a _) p4 = _; rw [ups_ne e4, ups_ne (Ne.symm n54), ups_ne e4, ups_same]; rfl
    | ro => cases hk; show (ups _ a _) p5 = _; rw [ups_ne e5, ups_same]; rfl
    | m i => simp [ChSt.ct, ChSt.new] at hk
    | q i => simp [ChSt.ct, ChSt.new] at hk
    | ap i => simp [ChSt.ct, ChSt.new, ChSt.apF] at hk
  · cases k with
    | m i => simp [ChSt.ct, ChSt.new] at hk
    | q i => simp [ChSt.ct, ChSt.new] at hk
    | ap i => simp [ChSt.ct, ChSt.new, ChSt.apF] at hk
    | _ => simp
  · simp only [List.nodup_cons, List.mem_cons, List.not_mem_nil, or_false, not_or, List.nodup_nil, not_false_eq_true, and_true]
    exact ⟨⟨Ne.symm e1, Ne.symm e2, Ne.symm e3, Ne.symm e4, Ne.symm e5⟩, ⟨Ne.symm n21, Ne.symm n31, Ne.symm n41, Ne.symm n51⟩, ⟨Ne.symm n32, Ne.symm n42, Ne.symm n52⟩, ⟨Ne.symm n43, Ne.symm n53⟩, Ne.symm n54⟩
  · have m1 : b ≠ p1 := fun z => by rw [z, k1] at ho; cases ho
    have m2 : b ≠ p2 := fun z => by rw [z, k2] at ho; cases ho
    have m3 : b ≠ p3 := fun z => by rw [z, k3] at ho; cases ho
    have m4 : b ≠ p4 := fun z => by rw [z, k4] at ho; cases ho
    have m5 : b ≠ p5 := fun z => by rw [z, k5] at ho; cases ho
    refine ⟨?_, fun k hk => ?_⟩
    · rw [ups_ne hb, ups_ne m5, ups_ne hb, ups_ne m4, ups_ne hb, ups_ne m3, ups_ne hb, ups_ne m2, ups_ne hb, ups_ne m1, ups_ne hb]
      exact ho
    · cases k with
      | c => exact hb
      | mo => exact m1
      | pi => exact m2
      | as => exact m3
      | de => exact m4
      | ro => exact m5
      | m i => simp [ChSt.ct, ChSt.new] at hk
      | q i => simp [ChSt.ct, ChSt.new] at hk
      | ap i => simp [ChSt.ct, ChSt.new, ChSt.apF] at hk
--SEG
def cellZ (ns : List Int) (k : Int) : Int := if k < ns.length then ns.getD k.toNat 0 else 0
def G_wcell_at : Fs := fun ds om Q _ => ∃ ns k, ds = [.scr ns, .int k] ∧ 0 ≤ k ∧ Q (.int (cellZ ns k)) om
theorem ok_wcell_at (B : Blt mg) (F : Df K d_wcell_at f fd) : FnOk P w K mg base (L2.CX P w) 1 f fd ["_law_script", "_law_k"] (spD K 2 G_wcell_at) := by
  refine def_ok' F sc_wcell_at rfl N_wcell_at rfl (by decide +kernel) ?_
  rintro X rfl rfl rfl rfl rfl ⟨nN, nd, sc, calm, fn, room, un, pass, stk, frm, exs⟩ ⟨⟨_, _⟩, ⟨_, _⟩, _⟩ om ds Q Rr hl ⟨ns, k, rfl, hk, q⟩
  exact "st"
  apply st_when
  · exact "t"
  · intro h
    have h := of_decide_eq_true h
    rw [cellZ, if_pos h] at q
    refine ret_v ?_ q
    have hk2 : k.toNat < ns.length := by omega
    have e : atI ns k = some (ns.getD k.toNat 0) := by
      have e1 : k = (k.toNat : Int) := by omega
      rw [e1, List.getD_eq_getElem?_getD, Int.toNat_natCast, List.getElem?_eq_getElem hk2]
      exact atI_nat (List.getElem?_eq_getElem hk2)
    exact "v"
  · intro h
    rw [cellZ, if_neg (of_decide_eq_false h)] at q
    exact ret_v v_int q
theorem pu_cell {om : Om} {ns : List Int} {k : Int} (h : 0 ≤ k) : Pu G_wcell_at om [.scr ns, .int k] (.int (cellZ ns k)) := .mk fun Q R q => ⟨ns, k, rfl, h, q⟩
local macro_rules | `(tactic| exact "pu") => `(tactic| ((with_reducible apply pu_cell); omega))
def G_wword : Fs := fun ds om Q _ => ∃ c, ds = [.int c] ∧ Q (.str (word c)) om
theorem ok_wword (B : Blt mg) (F : Df K d_wword f fd) : FnOk P w K mg base (L2.CX P w) 1 f fd ["_law_cell"] (spD K 1 G_wword) := by
  refine def_ok' F sc_wword rfl N_wword rfl (by decide +kernel) ?_
  rintro X rfl rfl rfl rfl rfl ⟨nN, nd, sc, calm, fn, room, un, pass, stk, frm, exs⟩ ⟨⟨_, _⟩, ⟨_, _⟩, ⟨_, _⟩, ⟨_, _⟩, _⟩ om ds Q Rr hl ⟨c, rfl, q⟩
  exact "st"
  have hs : sgS.length ≤ sizeLine := by rw [sizeLine_eq]; decide +kernel
  exact "asg"
  have e1 : atI sgS.cps.toList (c % 33) = some (sg (c % 33)) := sg_at (by omega) (by omega)
  (with_reducible apply Lo.set); (with_reducible assumption); assumption
  · (with_reducible apply v_ix); exact "v"; exact "v"; exact ix_S hs e1; omega; exact "sd"
  case hs => exact "sd"
  exact "ro"
  apply st_for (g := gName 3) (U := fun d ro => ro.set 3 (some d)) (I := fun i ro' om' => om' = om ∧ i ≤ 2 + 1 ∧ ∃ a, ro' = [some (.int c), some (.str sgS), some (.str (wordF c i)), a])
  exact "fo"
  case hi =>
    apply it_r1
    · exact "v"
    · exact B.range
    · omega
    · omega
    · exact "gl"
    · exact "sd"
  case h0 => exact ⟨rfl, by decide, _, rfl⟩
  case hP => exact fun _ _ _ _ => trivial
  case hs =>
    rintro i d ro' om' hi ⟨rfl, hle, a, rfl⟩
    rw [List.getElem?_map] at hi
    obtain ⟨t, ht, rfl⟩ := Option.map_eq_some_iff.mp hi
    obtain ⟨hlt, et⟩ := List.getElem?_eq_some_iff.mp ht
    rw [List.getElem_range] at et
    subst et
    rw [List.length_range] at hlt
    exact "ro"
    have e2 : atI sgS.cps.toList (c / (99 * (1 + 33 * (i : Int))) % 34) = some (sg (c / (99 * (1 + 33 * (i : Int))) % 34)) := sg_at (by omega) (by omega)
    (with_reducible apply Lo.set); (with_reducible assumption); assumption
    · (with_reducible apply v_op)
      · exact "v"
      · (with_reducible apply v_ix); exact "v"; exact "v"; exact ix_S hs e2; omega; exact "sd"
      · exact o_addS (by rw [wordF_len, sizeLine_eq]; show i + 1 + 1 ≤ _; omega)
    case hs => exact "sd"
    exact "ro"
    refine ws_nil ⟨rfl, by omega, _, rfl⟩
  case hd =>
    rintro ro' om' ⟨rfl, _, a, rfl⟩
    rw [List.length_map, List.length_range]
    refine ret_v ?_ q
    exact "v"
theorem pu_word {om : Om} {c : Int} : Pu G_wword om [.int c] (.str (word c)) := .mk fun Q R q => ⟨c, rfl, q⟩
local macro_rules | `(tactic| exact "pu") => `(tactic| with_reducible exact pu_word)
def G_wclause : Fs := fun ds om Q _ => ∃ c, ds = [.int c] ∧ Q (.str (drawn c)) om
theorem ok_wclause (B : Blt mg) (D1 : DefOk P w K mg base "_law_word" 1 1 G_wword) (F : Df K d_wclause f fd) : FnOk P w K mg base (L2.CX P w) 2 f fd ["_law_cell"] (spD K 1 G_wclause) := by
  refine def_ok' F sc_wclause rfl N_wclause rfl (by decide +kernel) ?_
  rintro X rfl rfl rfl rfl rfl ⟨nN, nd, sc, calm, fn, room, un, pass, stk, frm, exs⟩ ⟨⟨_, _⟩, ⟨_, _⟩, ⟨_, _⟩, ⟨_, _⟩, _⟩ om ds Q Rr hl ⟨c, rfl, q⟩
  exact "st"
  have sz : sizeLine = 16777216 := sizeLine_eq
  exact "new"
  rename_i p hp
  exact "asg"
  apply st_for (g := gName 3) (U := fun d ro => ro.set 3 (some d)) (I := fun i ro' om' => om' = ups om p (.lst ((clauseWs c i).map .str)) ∧ i ≤ 3 ∧ ∃ a, ro' = [some (.int c), some (.obj p), some (.int (lcg (c % 4294967311 + 1) i)), a])
  exact "fo"
  case hi =>
    apply it_r1
    · exact "v"
    · exact B.range
    · omega
    · omega
    · exact "gl"
    · exact "sd"
  case h0 => exact ⟨rfl, by decide, _, rfl⟩
  case hP => exact fun _ _ _ _ => trivial
  case hs =>
    rintro i d ro' om' hi ⟨rfl, hle, a, rfl⟩
    rw [List.getElem?_map] at hi
    obtain ⟨t, ht, rfl⟩ := Option.map_eq_some_iff.mp hi
    obtain ⟨hlt, et⟩ := List.getElem?_eq_some_iff.mp ht
    rw [List.getElem_range] at et
    subst et
    rw [List.length_range] at hlt
    exact "ro"
    exact "asg"
    have hl := clauseWs_sum c i
    have hap : ((clauseWs c i).map D.str).length < sizeLine := by rw [List.length_map]; omega
    exact "app"
    refine ws_nil ⟨?_, by omega, _, by rw [lcg_succ]⟩
    rw [clauseWs_succ, List.map_append]
    rfl
  case hd =>
    rintro ro' om' ⟨rfl, _, a, rfl⟩
    rw [List.length_map, List.length_range]
    have hl := clauseWs_sum c (c % 4).toNat
    have hz : ((clauseWs c (c % 4).toNat).map (·.length)).sum + (clauseWs c (c % 4).toNat).length ≤ 16777216 := by omega
    refine ret_d p (d := .str (clauseC (clauseWs c (c % 4).toNat))) ?_ ?_
    · have l : Lr (ups om p (.lst ((clauseWs c (c % 4).toNat).map .str))) (.obj p) ((clauseWs c (c % 4).toNat).map .str) := Lr.ob ups_same
      exact "v"
    · rw [dels_ups hp]
      exact q
theorem pu_drawn {om : Om} {c : Int} : Pu G_wclause om [.int c] (.str (drawn c)) := .mk fun Q R q => ⟨c, rfl, q⟩
local macro_rules | `(tactic| exact "pu") => `(tactic| with_reducible exact pu_drawn)
--SEG
def isMat (s : ChSt) (k : Int) : Prop := ∃ i : Nat, k = (i : Int) + 1 ∧ i < s.mots.length ∧ (s.mt i).isMatter = true
def G_Chamber_matter_of : Fs := fun ds om Q R => ∃ L s k, ds = [.obj (L .c), .int k] ∧ Ch (ka K) (kC K) L s om ∧ (∀ i : Nat, k = (i : Int) + 1 → i < s.mots.length → (s.mt i).isMatter = true → Q (.obj (L (.m i))) om) ∧ (¬ isMat s k → R (.ref (He.ga K "NoNumber")) [] om)
theorem ok_Chamber_matter_of (B : Blt mg) (A : ChA K) (S : Sorts K mg) (x0 : Xc0 K mg "NoNumber" (He.ga K "NoNumber")) (F : Df K d_Chamber_matter_of f fd) : FnOk P w K mg base (L2.CX P w) 2 f fd ["self", "number"] (spD K 2 (G_Chamber_matter_of (K := K))) := by
  refine def_ok' F sc_Chamber_matter_of rfl N_Chamber_matter_of rfl (by decide +kernel) ?_
  rintro X rfl rfl rfl rfl rfl ⟨nN, nd, sc, calm, fn, room, un, pass, stk, frm, exs⟩ ⟨⟨n0, _⟩, ⟨n1, _⟩, ⟨n2, l2⟩, _⟩ om ds Q Rr hl ⟨L, s, k, rfl, ch, q, qx⟩
  exact "st"
  have hc := ch.hc
  have hmo := ch.hmo
  have a1 := A.motions
  have hlen : (((s.moD L).length : Nat) : Int) = (s.mots.length : Int) := by rw [moD_len]
  apply st_when
  · exact "t"
  · intro h
    rw [hlen] at h
    exact s_raise x0 (qx fun ⟨i, z1, z2, _⟩ => by
      have h1 : (1 : Int) ≤ k := by omega
      have h2 : k ≤ (s.mots.length : Int) := by omega
      rw [decide_eq_true h1, decide_eq_true h2] at h
      cases h) calm (by exact "gl")
  intro h
  rw [hlen] at h
  have h : 1 ≤ k ∧ k ≤ (s.mots.length : Int) := by simpa using h
  obtain ⟨i, rfl⟩ : ∃ i : Nat, k = (i : Int) + 1 := ⟨(k - 1).toNat, by omega⟩
  have hi : i < s.mots.length := by omega
  have A1 := ch.hm hi
  have hat := at_mo (L := L) hi
  have hk : decide ((s.mt i).rank = 0) = (s.mt i).isMatter := by
    generalize s.mt i = m
    cases m <;> rfl
  exact "asg"
  apply st_when
  · exact "t"
  · intro h
    rw [hk] at h
    exact s_raise x0 (qx fun ⟨j, z1, z2, z3⟩ => by
      have : i = j := by omega
      subst this
      rw [z3] at h
      cases h) calm (by exact "gl")
  · intro h
    rw [hk] at h
    exact ret_v (by exact "v") (q i rfl hi (by simpa using h))
theorem pu_mof {om : Om} {L : La} {s : ChSt} {i : Nat} (ch : Ch (ka K) (kC K) L s om) (hi : i < s.mots.length) (hm : (s.mt i).isMatter = true) : Pu (G_Chamber_matter_of (K := K)) om [.obj (L .c), .int ((i : Int) + 1)] (.obj (L (.m i))) := .mk fun Q R q => ⟨L, s, _, rfl, ch, fun j hj _ _ => by
  have : i = j := by omega
  subst this
  exact q, fun z => absurd ⟨i, rfl, hi, hm⟩ z⟩
def G_mlist (g : Mt → List D) : Fs := fun ds om Q R => ∃ L s k, ds = [.obj (L .c), .int k] ∧ Ch (ka K) (kC K) L s om ∧ (∀ i : Nat, k = (i : Int) + 1 → i < s.mots.length → (s.mt i).isMatter = true → ∀ p, om p = none → Q (.obj p) (ups om p (.lst (g (s.mt i))))) ∧ (¬ isMat s k → R (.ref (He.ga K "NoNumber")) [] om)
theorem pn_mlist {g : Mt → List D} {om : Om} {L : La} {s : ChSt} {i : Nat} (ch : Ch (ka K) (kC K) L s om) (hi : i < s.mots.length) (hm : (s.mt i).isMatter = true) : Pn (G_mlist (K := K) g) om [.obj (L .c), .int ((i : Int) + 1)] (g (s.mt i)) := .mk fun Q R q => ⟨L, s, _, rfl, ch, fun j hj _ _ => by
  have : i = j := by omega
  subst this
  exact q, fun z => absurd ⟨i, rfl, hi, hm⟩ z⟩
def chD (m : Mt) : List D := m.chL.map Ed.d
def fiD (m : Mt) : List D := (fiL m).map .str
theorem ok_Chamber_kept_changes (B : Blt mg) (Ac : Att K (ka K).M "changes") (M1 : MethOk P w K mg base (kC K) "matter_of" 2 2 (G_Chamber_matter_of (K := K))) (F : Df K d_Chamber_kept_changes f fd) : FnOk P w K mg base (L2.CX P w) 3 f fd ["self", "number"] (spD K 2 (G_mlist (K := K) chD)) := by
  refine def_ok' F sc_Chamber_kept_changes rfl N_Chamber_kept_changes rfl (by decide +kernel) ?_
  rintro X rfl rfl rfl rfl rfl ⟨nN, nd, sc, calm, fn, room, un, pass, stk, frm, exs⟩ ⟨⟨n0, _⟩, ⟨n1, _⟩, _⟩ om ds Q Rr hl ⟨L, s, k, rfl, ch, q, qx⟩
  exact "st"
  have hc := ch.hc
  by_cases hk : isMat s k
  · obtain ⟨i, rfl, hi, hm⟩ := hk
    have A1 := ch.hm hi
    have pu1 := pu_mof (K := X.K) ch hi hm
    obtain ⟨f0, t, c0, hmt⟩ := Mt.matter_of hm
    rw [hmt] at A1
    have ho := A1.o
    have hq := A1.c c0 rfl
    refine ret_n (ds := chD (s.mt i)) ?_ (q i rfl hi hm)
    rw [hmt]
    show wn X _ om _ (c0.map Ed.d)
    (with_reducible apply n_bi)
    · (with_reducible apply av_cons)
      · (with_reducible apply v_fld)
        · refine v_meth (ds := [.int ((i : Int) + 1)]) (show wv X _ om _ (.obj (L .c)) from ?_) hc rfl M1 (Room.mono room (by decide)) ?_ rfl pu1 rfl rfl rfl
          · exact "v"
          · exact "av"
        · exact ho
        · exact Ac
        · rfl
        · exact "sd"
      · exact "av"
      · exact "sd"
    · exact B.bList
    · exact b_listL (Lr.ob hq)
    · exact "gl"
    · exact "sd"
    · exact "sd"
  · refine ret_e (e_bi B.bList (a_cons (e_fld (e_m (ds := [.int k]) (show wv X _ om _ (.obj (L .c)) from ?_) hc rfl M1 (Room.mono room (by decide)) ?_ rfl ⟨L, s, k, rfl, ch, fun i z1 z2 z3 => absurd ⟨i, z1, z2, z3⟩ hk, qx⟩ rfl rfl rfl) rfl) rfl) (by exact "gl") rfl rfl)
    · exact "v"
    · exact "av"
theorem ok_Chamber_first_text (B : Blt mg) (Ac : Att K (ka K).M "first") (M1 : MethOk P w K mg base (kC K) "matter_of" 2 2 (G_Chamber_matter_of (K := K))) (F : Df K d_Chamber_first_text f fd) : FnOk P w K mg base (L2.CX P w) 3 f fd ["self", "number"] (spD K 2 (G_mlist (K := K) fiD)) := by
  refine def_ok' F sc_Chamber_first_text rfl N_Chamber_first_text rfl (by decide +kernel) ?_
  rintro X rfl rfl rfl rfl rfl ⟨nN, nd, sc, calm, fn, room, un, pass, stk, frm, exs⟩ ⟨⟨n0, _⟩, ⟨n1, _⟩, _⟩ om ds Q Rr hl ⟨L, s, k, rfl, ch, q, qx⟩
  exact "st"
  have hc := ch.hc
  by_cases hk : isMat s k
  · obtain ⟨i, rfl, hi, hm⟩ := hk
    have A1 := ch.hm hi
    have pu1 := pu_mof (K := X.K) ch hi hm
    obtain ⟨f0, t, c0, hmt⟩ := Mt.matter_of hm
    rw [hmt] at A1
    have ho := A1.o
    refine ret_n (ds := fiD (s.mt i)) ?_ (q i rfl hi hm)
    rw [hmt]
    show wn X _ om _ (f0.map .str)
    have lr1 : Lr om (.lst (f0.map D.str)) (f0.map D.str) := Lr.im
    (with_reducible apply n_bi)
    · (with_reducible apply av_cons)
      · (with_reducible apply v_fld)
        · refine v_meth (ds := [.int ((i : Int) + 1)]) (show wv X _ om _ (.obj (L .c)) from ?_) hc rfl M1 (Room.mono room (by decide)) ?_ rfl pu1 rfl rfl rfl
          · exact "v"
          · exact "av"
        · exact ho
        · exact Ac
        · rfl
        · exact "sd"
      · exact "av"
      · exact "sd"
    · exact B.bList
    · exact b_listL lr1
    · exact "gl"
    · exact "sd"
    · exact "sd"
  · refine ret_e (e_bi B.bList (a_cons (e_fld (e_m (ds := [.int k]) (show wv X _ om _ (.obj (L .c)) from ?_) hc rfl M1 (Room.mono room (by decide)) ?_ rfl ⟨L, s, k, rfl, ch, fun i z1 z2 z3 => absurd ⟨i, z1, z2, z3⟩ hk, qx⟩ rfl rfl rfl) rfl) rfl) (by exact "gl") rfl rfl)
    · exact "v"
    · exact "av"
def G_Chamber_minutes : Fs := fun ds om Q _ => ∃ L s, ds = [.obj (L .c)] ∧ Ch (ka K) (kC K) L s om ∧ ∀ p, om p = none → Q (.obj p) (ups om p (.lst (s.rows.map .str)))
theorem ok_Chamber_minutes (B : Blt mg) (A : ChA K) (F : Df K d_Chamber_minutes f fd) : FnOk P w K mg base (L2.CX P w) 1 f fd ["self"] (spD K 1 (G_Chamber_minutes (K := K))) := by
  refine def_ok' F sc_Chamber_minutes rfl N_Chamber_minutes rfl (by decide +kernel) ?_
  rintro X rfl rfl rfl rfl rfl ⟨nN, nd, sc, calm, fn, room, un, pass, stk, frm, exs⟩ ⟨⟨_, _⟩, _⟩ om ds Q Rr hl ⟨L, s, rfl, ch, q⟩
  exact "st"
  have hc := ch.hc
  have hro := ch.hro
  have a1 := A.rows
  exact ret_n (by exact "n") q
theorem pn_minutes {om : Om} {L : La} {s : ChSt} (ch : Ch (ka K) (kC K) L s om) : Pn (G_Chamber_minutes (K := K)) om [.obj (L .c)] (s.rows.map .str) := .mk fun Q R q => ⟨L, s, rfl, ch, q⟩
--SEG
theorem op_same {X : Cx} {om : Om} {x : D} {p : PyData} (hu : X.A.units + 64 < cLine) (h : Pd om x p) (k : pok p) : Op X om (compareOp .Eq) x x (.bl true) := by
  have := c_eqD (X := X) hu h h k k
  rwa [eqv_self k] at this
theorem op_sameN {X : Cx} {om : Om} {x y : D} {p : PyData} (hu : X.A.units + 64 < cLine) (h : Pd om x p) (h' : Pd om y p) (k : pok p) : Op X om (compareOp .NotEq) x y (.bl false) := by
  have := c_neD (X := X) hu h h' k k
  rwa [eqv_self k] at this
theorem joinL_cnt : ∀ ps : List (List Nat), ps.length ≤ (TL.joinL [32] ps).count 32 + 1
  | [] => Nat.zero_le _
  | [p] => by simp
  | p :: q :: r => by
    have ih := joinL_cnt (q :: r)
    simp only [TL.joinL, List.count_append, List.length_cons] at ih ⊢
    have : ([32] : List Nat).count 32 = 1 := by decide
    omega
theorem clause_cnt (ws : List Str) : ws.length ≤ (TL.tl (clauseC ws)).count 32 + 1 := by
  have := joinL_cnt (ws.map TL.tl)
  rwa [List.length_map, ← tl_clause] at this
/-- the blanks of a text, and one -/
def szC (s : Str) : Int := (((TL.tl s).count 32 : Nat) : Int) + (if s = "" then 0 else 1)
theorem sz_words {s : Str} (h : IsCl s) : ((wordsC s).length : Int) ≤ szC s := by
  obtain ⟨ws, h1, rfl, _⟩ := h
  rw [words_clause h1]
  unfold szC
  have h2 := clause_cnt ws
  split
  · next e =>
    have : ws = [] := by
      have := words_clause h1
      rw [e] at this
      rw [← this]
      rfl
    rw [this]
    simp
  · omega
theorem sz_pos (s : Str) : 0 ≤ szC s := by unfold szC; split <;> omega
/-- a deed or a question -/
inductive Qd where
  | dd (e : Dd) | mo (k : Int) | ke (k : Int) | fi (k : Int)
def Qd.d : Qd → D
  | dd e => e.d
  | mo k => .tup [.str "motion", .int k]
  | ke k => .tup [.str "kept", .int k]
  | fi k => .tup [.str "first", .int k]
abbrev xnm (o : Option Rf) : Str := match o with
  | some r => r.nm
  | none => "NoNumber"
abbrev xfs (o : Option Rf) : List (Str × D) := match o with
  | some r => r.fs
  | none => []
def dueD : Option Rf → D
  | some (.bar b) => .tup [.str "bar", .int b]
  | some (.notLater n) => .tup [.str "later", .int n]
  | some (.notYet n) => .tup [.str "yet", .int n]
  | some .nothing => .int 0
  | some .noMatter => .int 1
  | some .noChange => .int 2
  | some .noFit => .int 3
  | some .tooMany => .int 4
  | some .noAside => .int 5
  | none => .int 6
def dueP : Option Rf → PyData
  | some (.bar b) => .tuple [.str "bar", .int b]
  | some (.notLater n) => .tuple [.str "later", .int n]
  | some (.notYet n) => .tuple [.str "yet", .int n]
  | some .nothing => .int 0
  | some .noMatter => .int 1
  | some .noChange => .int 2
  | some .noFit => .int 3
  | some .tooMany => .int 4
  | some .noAside => .int 5
  | none => .int 6
theorem due_two {om : Om} (k : Str) (n : Int) : Pd om (.tup [.str k, .int n]) (.tuple [.str k, .int n]) := Pd.t (.cons (Pd.str _) (.cons (Pd.int _) .nil))
theorem dueD_pd {om : Om} : ∀ o : Option Rf, Pd om (dueD o) (dueP o)
  | some (.bar b) => due_two _ _ | some (.notLater n) => due_two _ _ | some (.notYet n) => due_two _ _
  | some .nothing => Pd.int _ | some .noMatter => Pd.int _ | some .noChange => Pd.int _ | some .noFit => Pd.int _ | some .tooMany => Pd.int _ | some .noAside => Pd.int _ | none => Pd.int _
theorem two_pk (k : Str) (n : Int) : pok (.tuple [.str k, .int n]) := pok_of (pokn_tuple (all_cons pokn_str (all_cons pokn_int all_nil)))
theorem int_pk (n : Int) : pok (.int n) := pok_of pokn_int
theorem dueP_pk : ∀ o : Option Rf, pok (dueP o)
  | some (.bar b) => two_pk _ _ | some (.notLater n) => two_pk _ _ | some (.notYet n) => two_pk _ _
  | some .nothing => int_pk _ | some .noMatter => int_pk _ | some .noChange => int_pk _ | some .noFit => int_pk _ | some .tooMany => int_pk _ | some .noAside => int_pk _ | none => int_pk _
/-- what is refused, and by what -/
def Refd (s : ChSt) : Qd → Option Rf → Prop
  | .dd e, o => okD e ∧ ∃ r, o = some r ∧ s.ref e = some r
  | .mo k, o => o = none ∧ ¬ (1 ≤ k ∧ k ≤ (s.mots.length : Int))
  | .ke k, o => o = none ∧ ¬ isMat s k
  | .fi k, o => o = none ∧ ¬ isMat s k
structure Cz where
  ah : List Dd
  de : Qd
  o : Option Rf
def Cz.d (c : Cz) : D := .tup [.lst (c.ah.map Dd.d), c.de.d, dueD c.o]
structure Cz.Ok (c : Cz) : Prop where
  led : Led 3 c.ah
  len : c.ah.length ≤ 3
  ref : Refd (runS 3 c.ah) c.de c.o
section
variable (one two wd : Str) (big sz : Int)
abbrev mA : Dd := .mv (.matter [one, two])
abbrev pA : Dd := .mv (.change (.put 2 one))
abbrev cA : Dd := .mv (.change (.cut 0))
abbrev eA : Dd := .mv (.mend (.put 0 wd))
def czL : List Cz := [⟨[], .dd (.vote 1 0), some .nothing⟩, ⟨[], .dd .drop, some .nothing⟩, ⟨[.mv .rest], .dd cA, some (.bar 6)⟩,
  ⟨[], .dd (pA one), some .noMatter⟩, ⟨[], .dd (.mv .lay), some .noMatter⟩, ⟨[], .dd (eA wd), some .noMatter⟩,
  ⟨[mA one two], .dd (mA one two), some (.bar 0)⟩,
  ⟨[mA one two], .dd (eA wd), some .noChange⟩, ⟨[mA one two, cA], .dd (eA wd), some .noChange⟩,
  ⟨[mA one two], .dd (.mv (.change (.turn 2 one))), some .noFit⟩, ⟨[mA one two], .dd (.mv (.putOff 1)), some (.notLater 1)⟩,
  ⟨[mA one two, pA one], .dd (.mv (.mend (.cut sz))), some .noFit⟩, ⟨[mA one two, pA one], .dd (pA one), some (.bar 1)⟩,
  ⟨[mA one two], .dd (.vote 3 1), some .tooMany⟩, ⟨[mA one two, .mv .close, .vote 2 1], .dd (.mv (.putOff 2)), some (.bar 4)⟩,
  ⟨[mA one two], .dd (.take 1), some (.bar 0)⟩, ⟨[], .dd (.take big), some .noAside⟩,
  ⟨[mA one two, .vote 1 0], .dd (.take 1), some .noAside⟩,
  ⟨[mA one two, .mv (.putOff big), .vote 1 0], .dd (.take 1), some (.notYet big)⟩, ⟨[mA one two, .mv (.putOff big), .vote 1 0], .dd (.take 2), some .noAside⟩, ⟨[], .mo big, none⟩,
  ⟨[mA one two, cA], .ke 2, none⟩, ⟨[mA one two, cA], .fi 2, none⟩, ⟨[mA one two], .mo 0, none⟩,
  ⟨[mA one two], .ke 0, none⟩, ⟨[mA one two], .fi (-1), none⟩, ⟨[mA one two], .ke big, none⟩]
end
theorem isMat_no {s : ChSt} {k : Int} (h : ∀ i : Nat, k = (i : Int) + 1 → i < s.mots.length → (s.mt i).isMatter = false) : ¬ isMat s k := fun ⟨i, h1, h2, h3⟩ => by rw [h i h1 h2] at h3; cases h3
theorem cz_ok {one two wd : Str} {big : Int} (h1 : IsCl one) (h2 : IsCl two) (hw : IsWord wd) (hb : 2 ≤ big) (hb2 : big < 10 ^ 9) (hsz : szC one < 10 ^ 9) : ∀ c ∈ czL one two wd big (szC one), c.Ok := by
  have gm : gdD (mA one two) := ⟨fun x hx => by simp only [List.mem_cons, List.not_mem_nil, or_false] at hx; rcases hx with rfl | rfl <;> assumption, by simp⟩
  have gp : gdD (pA one) := ⟨by show (2 : Int) < 10 ^ 9; decide, h1⟩
  have gc : gdD cA := ⟨by show (0 : Int) < 10 ^ 9; decide, cl_nil⟩
  have ge : gdD (eA wd) := ⟨by show (0 : Int) < 10 ^ 9; decide, fun _ => hw⟩
  have gv : ∀ a b : Int, 0 ≤ a → a < 10 ^ 10 → 0 ≤ b → b < 10 ^ 10 → gdD (.vote a b) := fun a b x1 x2 x3 x4 => ⟨⟨x1, x2⟩, ⟨x3, x4⟩⟩
  have L0 : Led 3 [] := Led.nil
  have L1 : Led 3 [mA one two] := L0.snoc gm rfl
  have Lr : Led 3 [.mv .rest] := L0.snoc trivial rfl
  have Lc : Led 3 [mA one two, cA] := L1.snoc gc rfl
  have Lp : Led 3 [mA one two, pA one] := L1.snoc gp rfl
  have Lq : Led 3 [mA one two, .mv .close, .vote 2 1] := (L1.snoc (e := .mv .close) trivial rfl).snoc (gv 2 1 (by decide) (by decide) (by decide) (by decide)) rfl
  have Lv : Led 3 [mA one two, .vote 1 0] := L1.snoc (gv 1 0 (by decide) (by decide) (by decide) (by decide)) rfl
  have gb : gdD (.mv (.putOff big)) := ⟨by omega, by omega⟩
  have c1 : core (runS 3 [mA one two]) = ⟨3, 1, false, [.matter [one, two] [one, two] []], [0], []⟩ := rfl
  obtain ⟨hr2, c2⟩ := core_mvA (ys := []) (i := 0) (j := 0) (td := .putOff big) c1 (.inr ⟨rfl, rfl⟩) rfl rfl (by show (0 : Int) ≤ 2; decide) (.inl ⟨big, rfl, by omega⟩)
  obtain ⟨hr3, c3⟩ := core_away (i := 0) (r := []) (k := 1) (u := big) c2 rfl (.inl rfl) (by decide)
  have La : Led 3 [mA one two, .mv (.putOff big), .vote 1 0] := (L1.snoc (e := .mv (.putOff big)) gb hr2).snoc (e := .vote 1 0) (gv 1 0 (by decide) (by decide) (by decide) (by decide)) (by rw [run_snoc]; exact hr3)
  have c3 : core (runS 3 [mA one two, .mv (.putOff big), .vote 1 0]) = ⟨3, 1, false, [.matter [one, two] [one, two] [], .putOff big], [], [(0, big, [0])]⟩ := c3
  have wlen := sz_words h1
  have spos := sz_pos one
  have ok : ∀ {ah : List Dd} {e : Dd} {r : Rf}, Led 3 ah → ah.length ≤ 3 → gdD e → (runS 3 ah).ref e = some r → Cz.Ok ⟨ah, .dd e, some r⟩ := fun l k g h => ⟨l, k, g.ok, _, rfl, h⟩
  intro c hc
  unfold czL at hc
  simp only [List.mem_cons, List.not_mem_nil, or_false] at hc
  rcases hc with rfl | rfl | rfl | rfl | rfl | rfl | rfl | rfl | rfl | rfl | rfl | rfl | rfl | rfl | rfl | rfl | rfl | rfl | rfl | rfl | rfl | rfl | rfl | rfl | rfl | rfl | rfl
  · exact ok L0 (by simp) (gv 1 0 (by decide) (by decide) (by decide) (by decide)) rfl
  · exact ok L0 (by simp) trivial rfl
  · exact ok Lr (by simp) gc rfl
  · exact ok L0 (by simp) gp rfl
  · exact ok L0 (by simp) trivial rfl
  · exact ok L0 (by simp) ge rfl
  · exact ok L1 (by simp) gm rfl
  · exact ok L1 (by simp) ge rfl
  · exact ok Lc (by simp) ge rfl
  · exact ok L1 (by simp) (e := .mv (.change (.turn 2 one))) ⟨by show (2 : Int) < 10 ^ 9; decide, h1⟩ rfl
  · exact ok L1 (by simp) (e := .mv (.putOff 1)) ⟨by decide, by decide⟩ rfl
  · refine ok Lp (by simp) (e := .mv (.mend (.cut (szC one)))) ⟨hsz, fun z => absurd rfl z⟩ ?_
    have hf : Ed.fits (wordsC one).length (.cut (szC one)) = false := by
      show (decide ((0 : Int) ≤ szC one) && decide (szC one < ((wordsC one).length : Int))) = false
      rw [decide_eq_false (show ¬ szC one < ((wordsC one).length : Int) by omega), Bool.and_false]
    show (if Ed.fits (wordsC one).length (.cut (szC one)) = true then none else some Rf.noFit) = some .noFit
    rw [hf]
    rfl
  · exact ok Lp (by simp) gp rfl
  · exact ok L1 (by simp) (gv 3 1 (by decide) (by decide) (by decide) (by decide)) rfl
  · exact ok Lq (by simp) (e := .mv (.putOff 2)) ⟨by decide, by decide⟩ rfl
  · exact ok L1 (by simp) (e := .take 1) (by show (1 : Int) < 10 ^ 9; decide) rfl
  · exact ok L0 (by simp) (e := .take big) hb2 rfl
  · exact ok Lv (by simp) (e := .take 1) (by show (1 : Int) < 10 ^ 9; decide) rfl
  · refine ok La (by simp) (e := .take 1) (by show (1 : Int) < 10 ^ 9; decide) ?_
    have := (ref_take c3).1
    rw [if_pos (by omega)] at this
    exact this
  · refine ok La (by simp) (e := .take 2) (by show (2 : Int) < 10 ^ 9; decide) ?_
    obtain ⟨g1, g2, g3, g4, g5, g6⟩ := core_fs c3
    unfold ChSt.ref
    simp only
    rw [if_neg (by rw [g5]; simp)]
    have : (runS 3 [mA one two, .mv (.putOff big), .vote 1 0]).findA 2 = none := by unfold ChSt.findA; rw [g6]; rfl
    rw [this]
  · refine ⟨L0, by simp, rfl, fun z => ?_⟩
    have : big ≤ 0 := z.2
    omega
  · exact ⟨Lc, by simp, rfl, isMat_no fun i hi hl => by
      have : i = 1 := by omega
      subst this
      rfl⟩
  · exact ⟨Lc, by simp, rfl, isMat_no fun i hi hl => by
      have : i = 1 := by omega
      subst this
      rfl⟩
  · exact ⟨L1, by simp, rfl, fun z => by omega⟩
  · exact ⟨L1, by simp, rfl, isMat_no fun i hi hl => by omega⟩
  · exact ⟨L1, by simp, rfl, isMat_no fun i hi hl => by omega⟩
  · refine ⟨L1, by simp, rfl, isMat_no fun i hi hl => ?_⟩
    have hl : i < 1 := hl
    omega
--SEG
def G_wdo : Fs := fun ds om Q R => ∃ L s N x, ds = [.obj (L .c), Qd.d x] ∧ Std K N L s om ∧ (match x with
  | .dd e => okD e ∧ Dn K e L s om Q R
  | .mo k => ¬ (1 ≤ k ∧ k ≤ (s.mots.length : Int)) ∧ R (.ref (He.ga K "NoNumber")) [] om
  | .ke k => ¬ isMat s k ∧ R (.ref (He.ga K "NoNumber")) [] om
  | .fi k => ¬ isMat s k ∧ R (.ref (He.ga K "NoNumber")) [] om)
theorem ok_wdo (B : Blt mg) (M1 : MethOk P w K mg base (kC K) "vote" 5 3 (G_Chamber_vote (K := K))) (M2 : MethOk P w K mg base (kC K) "drop" 5 1 (G_Chamber_drop (K := K))) (M3 : MethOk P w K mg base (kC K) "take" 5 2 (G_Chamber_take (K := K)))
    (M5 : MethOk P w K mg base (kC K) "motion" 2 2 (G_Chamber_motion (K := K))) (M6 : MethOk P w K mg base (kC K) "kept_changes" 3 2 (G_mlist (K := K) chD)) (M7 : MethOk P w K mg base (kC K) "first_text" 3 2 (G_mlist (K := K) fiD)) (M4 : MethOk P w K mg base (kC K) "move" 5 2 (G_Chamber_move (K := K)))
    (F : Df K d_wdo f fd) : FnOk P w K mg base (L2.CX P w) 6 f fd ["_law_chamber", "_law_deed"] (spD K 2 (G_wdo (K := K))) := by
  refine def_ok' F sc_wdo rfl N_wdo rfl (by decide +kernel) ?_
  rintro X rfl rfl rfl rfl rfl ⟨nN, nd, sc, calm, fn, room, un, pass, stk, frm, exs⟩ ⟨⟨n0, _⟩, ⟨n1, _⟩, _⟩ om ds Q Rr hl ⟨L, s, N, x, rfl, std, h⟩
  exact "st"
  have hc := Ch.hc std.ch
  cases x with
  | mo k =>
    unfold Qd.d
    simp only
    iterate 3
      apply st_no
      · exact "t"
      · rfl
    apply st_yes
    · exact "t"
    · rfl
    refine ret_e (e_m (ds := [.int k]) (show wv X _ om _ (.obj (L .c)) from ?_) hc rfl M5 (Room.mono room (by decide)) ?_ rfl ⟨L, s, k, rfl, std.ch, fun i h1 h2 => absurd ⟨by omega, by omega⟩ h.1, fun _ => h.2⟩ rfl rfl rfl)
    · exact "v"
    · exact "av"
  | ke k =>
    unfold Qd.d
    simp only
    iterate 4
      apply st_no
      · exact "t"
      · rfl
    apply st_yes
    · exact "t"
    · rfl
    refine ret_e (e_m (ds := [.int k]) (show wv X _ om _ (.obj (L .c)) from ?_) hc rfl M6 (Room.mono room (by decide)) ?_ rfl ⟨L, s, k, rfl, std.ch, fun i h1 h2 h3 => absurd ⟨i, h1, h2, h3⟩ h.1, fun _ => h.2⟩ rfl rfl rfl)
    · exact "v"
    · exact "av"
  | fi k =>
    unfold Qd.d
    simp only
    iterate 5
      apply st_no
      · exact "t"
      · rfl
    apply st_yes
    · exact "t"
    · rfl
    refine ret_e (e_m (ds := [.int k]) (show wv X _ om _ (.obj (L .c)) from ?_) hc rfl M7 (Room.mono room (by decide)) ?_ rfl ⟨L, s, k, rfl, std.ch, fun i h1 h2 h3 => absurd ⟨i, h1, h2, h3⟩ h.1, fun _ => h.2⟩ rfl rfl rfl)
    · exact "v"
    · exact "av"
  | dd e =>
    obtain ⟨hok, dn⟩ := h
    cases e with
    | vote a n =>
      unfold Qd.d Dd.d
      simp only
      apply st_yes
      · exact "t"
      · rfl
      refine ret_e (e_m (ds := [.int a, .int n]) (show wv X _ om _ (.obj (L .c)) from ?_) hc rfl M1 (Room.mono room (by decide)) ?_ rfl ⟨L, s, N, a, n, rfl, std, hok, dn⟩ rfl rfl rfl)
      · exact "v"
      · exact "av"
    | drop =>
      unfold Qd.d Dd.d
      simp only
      apply st_no
      · exact "t"
      · rfl
      apply st_yes
      · exact "t"
      · rfl
      refine ret_e (e_m0 (show wv X _ om _ (.obj (L .c)) from ?_) hc rfl M2 (Room.mono room (by decide)) ⟨L, s, N, rfl, std, dn⟩ rfl)
      exact "v"
    | take k =>
      unfold Qd.d Dd.d
      simp only
      iterate 2
        apply st_no
        · exact "t"
        · rfl
      apply st_yes
      · exact "t"
      · rfl
      refine ret_e (e_m (ds := [.int k]) (show wv X _ om _ (.obj (L .c)) from ?_) hc rfl M3 (Room.mono room (by decide)) ?_ rfl ⟨L, s, N, k, rfl, std, dn⟩ rfl rfl rfl)
      · exact "v"
      · exact "av"
    | mv t =>
      have k6 : t.kind ≠ "motion" ∧ t.kind ≠ "kept" ∧ t.kind ≠ "first" := by cases t <;> (simp only [Td.kind]; decide)
      obtain ⟨k1, k2, k3⟩ := td_kind0 t
      show ws X _ [some (.obj (L .c)), some t.d] _ _
      have ix0 : Ix X om t.d (.int 0) (.str t.kind) := Td.ix0
      apply st_no (k := decide (t.kind = "vote"))
      · exact "t"
      · exact decide_eq_false k1
      apply st_no (k := decide (t.kind = "drop"))
      · exact "t"
      · exact decide_eq_false k3
      apply st_no (k := decide (t.kind = "take"))
      · exact "t"
      · exact decide_eq_false k2
      apply st_no (k := decide (t.kind = "motion"))
      · exact "t"
      · exact decide_eq_false k6.1
      apply st_no (k := decide (t.kind = "kept"))
      · exact "t"
      · exact decide_eq_false k6.2.1
      apply st_no (k := decide (t.kind = "first"))
      · exact "t"
      · exact decide_eq_false k6.2.2
      refine ret_e (e_m (ds := [t.d]) (show wv X _ om _ (.obj (L .c)) from ?_) hc rfl M4 (Room.mono room (by decide)) ?_ rfl ⟨L, s, N, t.d, t, rfl, std, TdAt.d t, TdOut.d t, hok, dn⟩ rfl rfl rfl)
      · exact "v"
      · exact "av"
def G_wcases : Fs := fun ds om Q _ => ∃ ns, ds = [.scr ns] ∧ ∀ cs : List Cz, (∀ c ∈ cs, c.Ok) → cs.length = 27 → Q (.lst (cs.map Cz.d)) om
theorem str_len {s : Str} (h : IsCl s) : (TL.tl s).length ≤ 2100 := by
  have := h.len
  rwa [len_tl] at this
theorem ok_wcases (B : Blt mg) (D2 : DefOk P w K mg base "_law_cell_at" 1 2 G_wcell_at) (D3 : DefOk P w K mg base "_law_clause" 2 1 G_wclause) (D4 : DefOk P w K mg base "_law_word" 1 1 G_wword) (F : Df K d_wcases f fd) : FnOk P w K mg base (L2.CX P w) 3 f fd ["_law_script"] (spD K 1 G_wcases) := by
  refine def_ok' F sc_wcases rfl (N_wcases.take 11) rfl (by decide +kernel) ?_
  rintro X rfl rfl rfl rfl rfl ⟨nN, nd, sc, calm, fn, room, un, pass, stk, frm, exs⟩ ⟨⟨n0, _⟩, ⟨n1, l1⟩, ⟨n2, l2⟩, ⟨n3, l3⟩, ⟨n4, l4⟩, ⟨n5, l5⟩, ⟨n6, l6⟩, ⟨n7, l7⟩, ⟨n8, l8⟩, ⟨n9, l9⟩, ⟨n10, l10⟩, _⟩ om ds Q Rr hl ⟨ns, rfl, q⟩
  exact "st"
  have sz : sizeLine = 16777216 := sizeLine_eq
  have nk : X.N[11]? = some ("_law_sign" : Str) := by rw [nN]; rfl
  exact "asg"
  exact "asg"
  obtain ⟨big, hbg, hb1, hb2⟩ : ∃ big : Int, big = 2 + cellZ ns 3 % 10 ^ (8 : Int).toNat ∧ 2 ≤ big ∧ big < 10 ^ 9 := by
    have p8 : (10 : Int) ^ (8 : Int).toNat = 100000000 := by decide
    have h1 := Int.emod_nonneg (cellZ ns 3) (b := 10 ^ (8 : Int).toNat) (by decide)
    have h2 := Int.emod_lt_of_pos (cellZ ns 3) (b := 10 ^ (8 : Int).toNat) (by decide)
    exact ⟨_, rfl, by omega, by omega⟩
  have p80 : (0 : Int) < 10 ^ (8 : Int).toNat := by decide
  refine l3.set (d := .int big) nd ?_ ?_ (by exact "sd")
  · rw [hbg]
    exact "v"
  exact "ro"
  clear hbg
  iterate 9
    exact "asg"
  have i1 : IsCl (drawn (cellZ ns 1)) := drawn_cl _
  have i2 : IsCl (drawn (cellZ ns 2)) := drawn_cl _
  have iw : IsWord (word (cellZ ns 3)) := word_ok _
  generalize drawn (cellZ ns 1) = one at *
  generalize drawn (cellZ ns 2) = two at *
  generalize word (cellZ ns 3) = wd at *
  have hl1 := str_len i1
  obtain ⟨zk, hzk⟩ : ∃ zk : List (D × Bool), zk = one.cps.toList.map fun c => (D.str ⟨#[c]⟩, decide ((⟨#[c]⟩ : Str) = " ")) := ⟨_, rfl⟩
  have hkl : (keepL zk).length = (TL.tl one).count 32 := by
    unfold keepL
    rw [List.length_map, hzk]
    show _ = one.cps.toList.count 32
    generalize one.cps.toList = l
    induction l with
    | nil => rfl
    | cons a l ih =>
      rw [List.map_cons, List.filter_cons, List.count_cons]
      have e : decide ((⟨#[a]⟩ : Str) = " ") = (a == 32) := by
        have e32 : (" " : Str) = ⟨#[32]⟩ := by decide +kernel
        rw [e32]
        by_cases h : a = 32
        · subst h; simp
        · rw [decide_eq_false (fun z => h (by injection z with z; simpa using z))]
          simp [h]
      rw [e]
      cases h : (a == 32) <;> simp [ih]
  have hz0 : (((keepL zk).length : Nat) : Int) + (if decide (one = "") = true then 0 else 1) = szC one := by
    unfold szC
    rw [hkl]
    by_cases h : one = "" <;> simp [h]
  have hsz : szC one < 10 ^ 9 := by
    have h1 : (TL.tl one).count 32 ≤ (TL.tl one).length := List.count_le_length
    unfold szC
    split <;> omega
  have hbt : (((if one = "" then 0 else 1 : Nat) : Nat) : Int) = (if one = "" then 0 else 1) := by split <;> rfl
  refine l9.set (d := .int (szC one)) nd ?_ ?_ (by exact "sd")
  · refine wv_is (d := .int ((((keepL zk).length : Nat) : Int) + (if (!decide (one = "")) = true then 1 else 0))) ?_ (by rw [← hz0]; cases decide (one = "") <;> rfl)
    (with_reducible apply v_op)
    · (with_reducible apply v_bi)
      · (with_reducible apply av_cons)
        · (with_reducible apply wn.v)
          refine n_lcF (Pm := fun _ => True) (ds := one.cps.toList.map fun c => .str ⟨#[c]⟩) (zk := zk) 11 nN sc nd calm (by decide +kernel) (by decide +kernel) (it_S ?_) (fun _ _ => trivial) (by rw [hzk, List.length_map, List.length_map]) (by rw [List.length_map]; have : (TL.tl one).length = one.cps.toList.length := rfl; omega) ?_ ?_
          · exact "v"
          · intro j d zk' hd hz s0 H C cl fp om5 E
            obtain ⟨c, hc, rfl⟩ := map_item hd
            rw [hzk, List.getElem?_map, hc] at hz
            cases hz
            exact "t"
          · intro j d zk' hd hz s0 H C cl fp om5 E
            obtain ⟨c, hc, rfl⟩ := map_item hd
            rw [hzk, List.getElem?_map, hc] at hz
            cases hz
            exact "v"
        · exact "av"
        · exact "sd"
      · exact "bi"
      · exact b_lenL Lr.im
      · exact "gl"
      · exact "sd"
      · exact "sd"
    · exact "v"
    · exact "op"
  exact "ro"
  iterate 4
    exact "asg"
  exact "asg"
  iterate 3
    exact "asg"
  refine ret_v ?_ (q (czL one two wd big (szC one)) (cz_ok i1 i2 iw hb1 hb2 hsz) rfl)
  apply wv_is
  case h => exact "v"
  case q => rfl
local macro_rules | `(tactic| exact "v") => `(tactic| ((with_reducible apply v_isX); (focus exact "nm"); (focus assumption); (focus assumption); (focus assumption); (focus assumption); (exact Blt.bIsi (by assumption)); (focus exact "gl"); (focus exact "gl"); (focus exact "sd"); (focus exact "sd"); (focus exact "sd")))
local macro_rules | `(tactic| exact "v") => `(tactic| ((with_reducible apply v_xfld); (focus exact "nm"); (focus assumption); (focus assumption); (focus assumption); (focus assumption); rfl))
theorem xnm_in : ∀ o : Option Rf, xnm o ∈ rfA
  | some (.bar _) => show ("Barred" : Str) ∈ rfA by decide +kernel
  | some .noMatter => show ("NoMatter" : Str) ∈ rfA by decide +kernel
  | some .noChange => show ("NoChange" : Str) ∈ rfA by decide +kernel
  | some .noFit => show ("NoFit" : Str) ∈ rfA by decide +kernel
  | some (.notLater _) => show ("NotLater" : Str) ∈ rfA by decide +kernel
  | some .nothing => show ("Nothing" : Str) ∈ rfA by decide +kernel
  | some .tooMany => show ("TooMany" : Str) ∈ rfA by decide +kernel
  | some .noAside => show ("NoAside" : Str) ∈ rfA by decide +kernel
  | some (.notYet _) => show ("NotYet" : Str) ∈ rfA by decide +kernel
  | none => show ("NoNumber" : Str) ∈ rfA by decide +kernel
def G_wtold : Fs := fun ds om Q _ => ∃ a o, ds = [.obj a] ∧ om a = some (.exc (He.ga K (xnm o)) (xfs o)) ∧ Q (dueD o) om
theorem ok_wtold (B : Blt mg) (Ks : Kits K mg rfA rfZ) (xfBarred : XcF P w K mg base "Barred" "bar" (He.ga K "Barred")) (xcBarred : XfC K (He.ga K "Barred")) (xfNotLater : XcF P w K mg base "NotLater" "sitting" (He.ga K "NotLater")) (xcNotLater : XfC K (He.ga K "NotLater")) (xfNotYet : XcF P w K mg base "NotYet" "sitting" (He.ga K "NotYet")) (xcNotYet : XfC K (He.ga K "NotYet"))
    (F : Df K d_wtold f fd) : FnOk P w K mg base (L2.CX P w) 1 f fd ["_law_e"] (spD K 1 (G_wtold (K := K))) := by
  refine def_ok' F sc_wtold rfl N_wtold rfl (by decide +kernel) ?_
  rintro X rfl rfl rfl rfl rfl ⟨nN, nd, sc, calm, fn, room, un, pass, stk, frm, exs⟩ ⟨⟨n0, _⟩, _⟩ om ds Q Rr hl ⟨a, o, rfl, ha, q⟩
  exact "st"
  have sz : sizeLine = 16777216 := sizeLine_eq
  obtain ⟨y0, y1, y2, y3, y4, y5, y6, y7, y8, y9, y10, y11⟩ : ("Barred" : Str) ∈ rfZ ∧ ("NotLater" : Str) ∈ rfZ ∧ ("NotYet" : Str) ∈ rfZ ∧ ("Nothing" : Str) ∈ rfZ ∧ ("NoMatter" : Str) ∈ rfZ ∧ ("NoChange" : Str) ∈ rfZ ∧ ("NoFit" : Str) ∈ rfZ ∧ ("TooMany" : Str) ∈ rfZ ∧ ("NoAside" : Str) ∈ rfZ ∧ ("NoNumber" : Str) ∈ rfZ ∧ ("NoRow" : Str) ∈ rfZ ∧ ("NoName" : Str) ∈ rfZ := by decide +kernel
  have g0 := Ks.g _ y0
  have kl0 := Kl.own (X := X) (x := "Barred") _ g0 (by decide)
  have kk0 := Ks.k _ (xnm_in o) _ y0
  have g1 := Ks.g _ y1
  have kl1 := Kl.own (X := X) (x := "NotLater") _ g1 (by decide)
  have kk1 := Ks.k _ (xnm_in o) _ y1
  have g2 := Ks.g _ y2
  have kl2 := Kl.own (X := X) (x := "NotYet") _ g2 (by decide)
  have kk2 := Ks.k _ (xnm_in o) _ y2
  have g3 := Ks.g _ y3
  have kl3 := Kl.own (X := X) (x := "Nothing") _ g3 (by decide)
  have kk3 := Ks.k _ (xnm_in o) _ y3
  have g4 := Ks.g _ y4
  have kl4 := Kl.own (X := X) (x := "NoMatter") _ g4 (by decide)
  have kk4 := Ks.k _ (xnm_in o) _ y4
  have g5 := Ks.g _ y5
  have kl5 := Kl.own (X := X) (x := "NoChange") _ g5 (by decide)
  have kk5 := Ks.k _ (xnm_in o) _ y5
  have g6 := Ks.g _ y6
  have kl6 := Kl.own (X := X) (x := "NoFit") _ g6 (by decide)
  have kk6 := Ks.k _ (xnm_in o) _ y6
  have g7 := Ks.g _ y7
  have kl7 := Kl.own (X := X) (x := "TooMany") _ g7 (by decide)
  have kk7 := Ks.k _ (xnm_in o) _ y7
  have g8 := Ks.g _ y8
  have kl8 := Kl.own (X := X) (x := "NoAside") _ g8 (by decide)
  have kk8 := Ks.k _ (xnm_in o) _ y8
  have g9 := Ks.g _ y9
  have kl9 := Kl.own (X := X) (x := "NoNumber") _ g9 (by decide)
  have kk9 := Ks.k _ (xnm_in o) _ y9
  have g10 := Ks.g _ y10
  have kl10 := Kl.own (X := X) (x := "NoRow") _ g10 (by decide)
  have kk10 := Ks.k _ (xnm_in o) _ y10
  have g11 := Ks.g _ y11
  have kl11 := Kl.own (X := X) (x := "NoName") _ g11 (by decide)
  have kk11 := Ks.k _ (xnm_in o) _ y11
  have xi := Ks.xi _ (xnm_in o)
  match o with
  | some (.bar b) =>
    apply st_yes
    · exact "t"
    · rfl
    have no := xfBarred.no
    have hlk : List.lookup ("bar" : Str) (xfs (some (.bar b))) = some (D.int b) := rfl
    refine ret_v ?_ q
    apply wv_is
    case h => exact "v"
    case q => rfl
  | some (.notLater b) =>
    iterate 1
      apply st_no
      · exact "t"
      · rfl
    apply st_yes
    · exact "t"
    · rfl
    have no := xfNotLater.no
    have hlk : List.lookup ("sitting" : Str) (xfs (some (.notLater b))) = some (D.int b) := rfl
    refine ret_v ?_ q
    apply wv_is
    case h => exact "v"
    case q => rfl
  | some (.notYet b) =>
    iterate 2
      apply st_no
      · exact "t"
      · rfl
    apply st_yes
    · exact "t"
    · rfl
    have no := xfNotYet.no
    have hlk : List.lookup ("sitting" : Str) (xfs (some (.notYet b))) = some (D.int b) := rfl
    refine ret_v ?_ q
    apply wv_is
    case h => exact "v"
    case q => rfl
  | some .nothing =>
    iterate 3
      apply st_no
      · exact "t"
      · rfl
    apply st_yes
    · exact "t"
    · rfl
    refine ret_v ?_ q
    apply wv_is
    case h => exact "v"
    case q => rfl
  | some .noMatter =>
    iterate 4
      apply st_no
      · exact "t"
      · rfl
    apply st_yes
    · exact "t"
    · rfl
    refine ret_v ?_ q
    apply wv_is
    case h => exact "v"
    case q => rfl
  | some .noChange =>
    iterate 5
      apply st_no
      · exact "t"
      · rfl
    apply st_yes
    · exact "t"
    · rfl
    refine ret_v ?_ q
    apply wv_is
    case h => exact "v"
    case q => rfl
  | some .noFit =>
    iterate 6
      apply st_no
      · exact "t"
      · rfl
    apply st_yes
    · exact "t"
    · rfl
    refine ret_v ?_ q
    apply wv_is
    case h => exact "v"
    case q => rfl
  | some .tooMany =>
    iterate 7
      apply st_no
      · exact "t"
      · rfl
    apply st_yes
    · exact "t"
    · rfl
    refine ret_v ?_ q
    apply wv_is
    case h => exact "v"
    case q => rfl
  | some .noAside =>
    iterate 8
      apply st_no
      · exact "t"
      · rfl
    apply st_yes
    · exact "t"
    · rfl
    refine ret_v ?_ q
    apply wv_is
    case h => exact "v"
    case q => rfl
  | none =>
    iterate 9
      apply st_no
      · exact "t"
      · rfl
    refine ret_v ?_ q
    apply wv_is
    case h => exact "v"
    case q => rfl
def G_wmany : Fs := fun ds om Q _ => ∃ a o, ds = [.obj a] ∧ om a = some (.exc (He.ga K (xnm o)) (xfs o)) ∧ Q (.int 1) om
theorem ok_wmany (B : Blt mg) (Ks : Kits K mg rfA rfZ) (F : Df K d_wmany f fd) : FnOk P w K mg base (L2.CX P w) 1 f fd ["_law_e"] (spD K 1 (G_wmany (K := K))) := by
  refine def_ok' F sc_wmany rfl (N_wmany.take 2) rfl (by decide +kernel) ?_
  rintro X rfl rfl rfl rfl rfl ⟨nN, nd, sc, calm, fn, room, un, pass, stk, frm, exs⟩ ⟨⟨n0, _⟩, ⟨n1, l1⟩, _⟩ om ds Q Rr hl ⟨a, o, rfl, ha, q⟩
  exact "st"
  have sz : sizeLine = 16777216 := sizeLine_eq
  have nk : X.N[2]? = some ("_law_one" : Str) := by rw [nN]; rfl
  obtain ⟨y0, y1, y2, y3, y4, y5, y6, y7, y8, y9, y10, y11⟩ : ("Barred" : Str) ∈ rfZ ∧ ("NotLater" : Str) ∈ rfZ ∧ ("NotYet" : Str) ∈ rfZ ∧ ("Nothing" : Str) ∈ rfZ ∧ ("NoMatter" : Str) ∈ rfZ ∧ ("NoChange" : Str) ∈ rfZ ∧ ("NoFit" : Str) ∈ rfZ ∧ ("TooMany" : Str) ∈ rfZ ∧ ("NoAside" : Str) ∈ rfZ ∧ ("NoNumber" : Str) ∈ rfZ ∧ ("NoRow" : Str) ∈ rfZ ∧ ("NoName" : Str) ∈ rfZ := by decide +kernel
  have g0 := Ks.g _ y0
  have kl0 := Kl.own (X := X) (x := "Barred") _ g0 (by decide)
  have kk0 := Ks.k _ (xnm_in o) _ y0
  have g1 := Ks.g _ y1
  have kl1 := Kl.own (X := X) (x := "NotLater") _ g1 (by decide)
  have kk1 := Ks.k _ (xnm_in o) _ y1
  have g2 := Ks.g _ y2
  have kl2 := Kl.own (X := X) (x := "NotYet") _ g2 (by decide)
  have kk2 := Ks.k _ (xnm_in o) _ y2
  have g3 := Ks.g _ y3
  have kl3 := Kl.own (X := X) (x := "Nothing") _ g3 (by decide)
  have kk3 := Ks.k _ (xnm_in o) _ y3
  have g4 := Ks.g _ y4
  have kl4 := Kl.own (X := X) (x := "NoMatter") _ g4 (by decide)
  have kk4 := Ks.k _ (xnm_in o) _ y4
  have g5 := Ks.g _ y5
  have kl5 := Kl.own (X := X) (x := "NoChange") _ g5 (by decide)
  have kk5 := Ks.k _ (xnm_in o) _ y5
  have g6 := Ks.g _ y6
  have kl6 := Kl.own (X := X) (x := "NoFit") _ g6 (by decide)
  have kk6 := Ks.k _ (xnm_in o) _ y6
  have g7 := Ks.g _ y7
  have kl7 := Kl.own (X := X) (x := "TooMany") _ g7 (by decide)
  have kk7 := Ks.k _ (xnm_in o) _ y7
  have g8 := Ks.g _ y8
  have kl8 := Kl.own (X := X) (x := "NoAside") _ g8 (by decide)
  have kk8 := Ks.k _ (xnm_in o) _ y8
  have g9 := Ks.g _ y9
  have kl9 := Kl.own (X := X) (x := "NoNumber") _ g9 (by decide)
  have kk9 := Ks.k _ (xnm_in o) _ y9
  have g10 := Ks.g _ y10
  have kl10 := Kl.own (X := X) (x := "NoRow") _ g10 (by decide)
  have kk10 := Ks.k _ (xnm_in o) _ y10
  have g11 := Ks.g _ y11
  have kl11 := Kl.own (X := X) (x := "NoName") _ g11 (by decide)
  have kk11 := Ks.k _ (xnm_in o) _ y11
  have xi := Ks.xi _ (xnm_in o)
  exact "asg"
  exact "asg"
  exact "asg"
  obtain ⟨bs, hbs⟩ : ∃ bs : List Bool, bs = (["Barred", "NotLater", "NotYet", "Nothing", "NoMatter", "NoChange", "NoFit", "TooMany", "NoAside", "NoNumber", "NoRow", "NoName"] : List Str).map fun y => decide (xnm o = y) := ⟨_, rfl⟩
  have hone : (keepL (bs.map fun b => (D.bl b, b))).length = 1 := by
    rw [hbs]
    cases o with
    | none => rfl
    | some r => cases r <;> rfl
  have hbl : bs.length = 12 := by rw [hbs]; rfl
  change ws X _ [some (.obj a), some (.lst ((List.map (fun y => decide (xnm o = y)) (["Barred", "NotLater", "NotYet", "Nothing", "NoMatter", "NoChange", "NoFit", "TooMany", "NoAside", "NoNumber", "NoRow", "NoName"] : List Str)).map D.bl)), none] om _
  rw [← hbs]
  refine ret_v (d := .int (((keepL (bs.map fun b => (D.bl b, b))).length : Nat) : Int)) ?_ (by rw [hone]; exact q)
  (with_reducible apply v_bi)
  · (with_reducible apply av_cons)
    · (with_reducible apply wn.v)
      refine n_lcF (Pm := fun om5 => Lr om5 (.lst (bs.map D.bl)) (bs.map D.bl)) (ds := bs.map D.bl) (zk := bs.map fun b => (D.bl b, b)) 2 nN sc nd calm (by decide +kernel) (by decide +kernel) (it_L (x := .lst (bs.map D.bl)) ?_ Lr.im) (fun _ _ => Lr.im) (by rw [List.length_map, List.length_map]) (by rw [List.length_map]; omega) ?_ ?_
      · exact "v"
      · intro j d zk' hd hz s0 H C cl fp om5 E
        obtain ⟨b, hb, rfl⟩ := map_item hd
        rw [List.getElem?_map, hb] at hz
        cases hz
        exact "t"
      · intro j d zk' hd hz s0 H C cl fp om5 E
        obtain ⟨b, hb, rfl⟩ := map_item hd
        rw [List.getElem?_map, hb] at hz
        cases hz
        exact "v"
    · exact "av"
    · exact "sd"
  · exact "bi"
  · exact b_lenL Lr.im
  · exact "gl"
  · exact "sd"
  · exact "sd"
--SEG
def G_law : Fs := fun ds om Q _ => ∃ ns : List Int, ds = [.scr ns] ∧ ns.length ≤ 63 ∧ ∀ om', Q (.bl true) om'
theorem ok_law (B : Blt mg) (Eb : RfB K mg "ChamberError") (em0 : PySem.W.exmOne K (.ref (He.ga K "NoNumber")) (.ref (He.ga K "ChamberError")) = some true) (Ks : Kits K mg rfA rfZ) (Kv : ∀ x ∈ rfA, PySem.W.kitOne K (.ref (He.ga K x)) (.type "ValueError") = some true)
    (D2 : DefOk P w K mg base "_law_cell_at" 1 2 G_wcell_at) (D1 : DefOk P w K mg base "_law_cases" 3 1 G_wcases) (D3 : MkOk P w K mg base "Chamber" (kC K) 1 2 (G_Chamber_init (K := K))) (D4 : DefOk P w K mg base "_law_do" 6 2 (G_wdo (K := K)))
    (M1 : MethOk P w K mg base (kC K) "state" 1 1 (G_Chamber_state (K := K))) (M2 : MethOk P w K mg base (kC K) "minutes" 1 1 (G_Chamber_minutes (K := K))) (D5 : DefOk P w K mg base "_law_told" 1 1 (G_wtold (K := K))) (D6 : DefOk P w K mg base "_law_many" 1 1 (G_wmany (K := K)))
    (F : Df K d_law f fd) : FnOk P w K mg base (L2.CX P w) 9 f fd ["_law_script"] (spD K 1 G_law) := by
  refine def_ok' F sc_law rfl N_law rfl (by decide +kernel) ?_
  rintro X rfl rfl rfl rfl rfl ⟨nN, nd, sc, calm, fn, room, un, pass, stk, frm, exs⟩ ⟨⟨n0, _⟩, ⟨n1, l1⟩, ⟨n2, l2⟩, ⟨n3, l3⟩, ⟨n4, l4⟩, ⟨n5, l5⟩, ⟨n6, l6⟩, ⟨n7, l7⟩, ⟨n8, l8⟩, ⟨n9, l9⟩, ⟨n10, l10⟩, _⟩ om ds Q Rr hl ⟨ns, rfl, hlen, q⟩
  exact "st"
  have sz : sizeLine = 16777216 := sizeLine_eq
  refine l1.setE nd (e_call D1 (Room.mono room (by decide)) ((show wav X _ om _ [.scr ns] from ?_) _ _ ⟨rfl, ns, rfl, fun cs hcs hcl => ?_⟩) (by exact "gl") (by decide) rfl rfl) rfl
  · exact "av"
  exact "ro"
  have hln : (((cs.map Cz.d).length : Nat) : Int) = 27 := by rw [List.length_map, hcl]; rfl
  have h1 := Int.emod_nonneg (cellZ ns 0) (b := (((cs.map Cz.d).length : Nat) : Int)) (by omega)
  have h2 := Int.emod_lt_of_pos (cellZ ns 0) (b := (((cs.map Cz.d).length : Nat) : Int)) (by omega)
  obtain ⟨c, hc, hat⟩ : ∃ c ∈ cs, atI (cs.map Cz.d) (cellZ ns 0 % (((cs.map Cz.d).length : Nat) : Int)) = some c.d := by
    have hi : (cellZ ns 0 % (((cs.map Cz.d).length : Nat) : Int)).toNat < cs.length := by omega
    refine ⟨cs[(cellZ ns 0 % (((cs.map Cz.d).length : Nat) : Int)).toNat], List.getElem_mem hi, ?_⟩
    have := atI_nat (xs := cs.map Cz.d) (j := (cellZ ns 0 % (((cs.map Cz.d).length : Nat) : Int)).toNat) (by rw [List.getElem?_map, List.getElem?_eq_getElem hi]; rfl)
    rwa [show (((cellZ ns 0 % (((cs.map Cz.d).length : Nat) : Int)).toNat : Nat) : Int) = cellZ ns 0 % (((cs.map Cz.d).length : Nat) : Int) by omega] at this
  have ixc : Ix X om (.lst (cs.map Cz.d)) (.int (cellZ ns 0 % (((cs.map Cz.d).length : Nat) : Int))) c.d := ix_L Lr.im hat
  have lrc : Lr om (.lst (cs.map Cz.d)) (cs.map Cz.d) := Lr.im
  have hpos : (0 : Int) < (((cs.map Cz.d).length : Nat) : Int) := by omega
  have co := hcs c hc
  refine Lo.un3 l2 l3 l4 nd calm ((show wv X _ om _ c.d from ?_) _ _ ⟨.lst (c.ah.map Dd.d), c.de.d, dueD c.o, rfl, ?_⟩) rfl rfl rfl rfl rfl
  · exact "v"
  exact "ro"
  obtain ⟨ah, de, o⟩ := c
  obtain ⟨led, hal, href⟩ := co
  simp only at led hal href
  show ws X _ [some (.scr ns), some (.lst (cs.map Cz.d)), some (.lst (ah.map Dd.d)), some de.d, some (dueD o), none, none, none, none, none, none] om _
  refine l5.setE nd (e_make D3 (Room.mono room (by decide)) ((show wav X _ om _ [.int 3] from ?_) _ _ ⟨rfl, fun a ha => ⟨a, 3, rfl, ups_same, fun L om1 ch hLc hfr => ⟨rfl, ?_⟩⟩⟩) (by exact "gl") (by decide) rfl rfl) rfl
  · exact "av"
  exact "ro"
  subst hLc
  have std0 : Std X.K 0 L (.new 3) om1 := ⟨ch, WF.new, bd_new, by decide⟩
  apply st_for (g := gName 6) (U := fun d ro => ro.set 6 (some d)) (I := fun i ro' om' => ∃ (L' : La) (d6 : Option D), L' .c = L .c ∧ Std X.K i L' (runS 3 (ah.take i)) om' ∧ ro' = [some (.scr ns), some (.lst (cs.map Cz.d)), some (.lst (ah.map Dd.d)), some de.d, some (dueD o), some (.obj (L .c)), d6, none, none, none, none])
  exact "fo"
  case hi =>
    apply it_L (x := .lst (ah.map Dd.d)) (ds := ah.map Dd.d)
    · exact "v"
    · exact Lr.im
  case h0 => exact ⟨L, none, rfl, std0, rfl⟩
  case hP => exact fun _ _ _ _ => Lr.im
  case hs =>
    rintro i d ro' om' hi ⟨L', d6, hL', st, rfl⟩
    obtain ⟨e, he, rfl⟩ := map_item hi
    have hil := (List.getElem?_eq_some_iff.mp he).1
    have hg := led.gd e (List.mem_of_getElem? he)
    have hr := led.ok i e he
    exact "ro"
    refine st_e (e_call D4 (Room.mono room (by decide)) ((show wav X _ om' _ [.obj (L' .c), e.d] from ?_) _ _ ⟨rfl, L', _, i, .dd e, rfl, st, hg.ok, (fun r z => by rw [hr] at z; cases z), fun _ L2 om2 nx => ?_⟩) (by exact "gl") (by decide) rfl rfl) rfl
    · rw [hL']
      exact "av"
    refine ws_nil ⟨L2, _, nx.c.trans hL', ?_, rfl⟩
    rw [run_take he]
    have e1 : (runS 3 (ah.take i)).step e = (runS 3 (ah.take i)).aft e := by unfold ChSt.step; rw [hr]
    exact ⟨by rw [e1]; exact nx.ch, st.wf.step e, st.bd.step st.wf hg.ok, by omega⟩
  case hd =>
    rintro ro' om' ⟨L', d6, hL', st, rfl⟩
    rw [List.length_map, List.take_length] at st
    generalize runS 3 ah = s at *
    have hc := Ch.hc st.ch
    have h64 : s.aside.length < 64 := by have := st.bd.al; omega
    have pu0 := pu_state (K := X.K) st.ch h64 st.wf.keys_nodup
    have pn0 := pn_minutes (K := X.K) st.ch
    rw [← hL']
    exact "asg"
    refine l8.set (d := .lst (s.rows.map .str)) nd (wn.v (n_meth0 (show wv X _ om' _ (.obj (L' .c)) from ?_) hc rfl M2 (Room.mono room (by decide)) pn0 rfl)) ?_ (by exact "sd")
    · exact "v"
    exact "ro"
    exact "asg"
    -- the refusal
    refine st_try stk frm nd fun pn xe hp => ?_
    have t5 := n5.tr (pn := pn) (xe := xe)
    have t3 := n3.tr (pn := pn) (xe := xe)
    refine ws_abs (fun F' => ∀ om1, Ext om' om1 → F'.ex (.ref (He.ga X.K (xnm o))) (xfs o) [some (.scr ns), some (.lst (cs.map Cz.d)), some (.lst (ah.map Dd.d)), some de.d, some (dueD o), some (.obj (L' .c)), d6, some s.stateD, some (.lst (s.rows.map .str)), some .non, none] om1) (fun F' hx => ?_) (fun om1 E => ?_)
    · refine st_e (e_call D4 (Room.mono room (by decide)) ((show wav (X.tr pn xe) _ om' _ [.obj (L' .c), de.d] from ?_) _ _ ⟨rfl, L', s, _, de, rfl, st, ?_⟩) (by exact "gl") (by decide) rfl rfl) rfl
      · exact "av"
      cases de with
      | dd e =>
        obtain ⟨hok, r, ho, hr⟩ := href
        subst ho
        exact ⟨hok, (fun r' z om1 E => by rw [hr] at z; cases z; exact hx om1 E), fun z => by rw [hr] at z; cases z⟩
      | mo k =>
        obtain ⟨ho, hk⟩ := href
        subst ho
        exact ⟨hk, hx om' Ext.refl⟩
      | ke k =>
        obtain ⟨ho, hk⟩ := href
        subst ho
        exact ⟨hk, hx om' Ext.refl⟩
      | fi k =>
        obtain ⟨ho, hk⟩ := href
        subst ho
        exact ⟨hk, hx om' Ext.refl⟩
    show hEx X _ _ _ _ _ _
    have em : PySem.W.exmOne X.K (.ref (He.ga X.K (xnm o))) (.ref (He.ga X.K "ChamberError")) = some true := by
      cases o with
      | none => exact em0
      | some r => exact Eb.ex _ r.nm_in
    refine hx_as (np := ⟨0, 0, 0, 0⟩) (p' := ⟨0, 0, 0, 0⟩) 10 Eb.g (by exact "gl") n10.at_ (kind_of sc (by decide +kernel)) em fun a pn2 ha => ?_
    exact "ro"
    refine Lo.set (Lo.suite l9) nd (NameAt.v (NameAt.suite n10) rfl) (ws_nil ?_) rfl
    show ws X _ _ _ _
    exact "ro"
    have E2 : Ext om' (ups om1 a (.exc (He.ga X.K (xnm o)) (xfs o))) := E.trans (Ext.ups ha)
    have ha2 : (ups om1 a (.exc (He.ga X.K (xnm o)) (xfs o))) a = some (.exc (He.ga X.K (xnm o)) (xfs o)) := ups_same
    generalize ups om1 a (.exc (He.ga X.K (xnm o)) (xfs o)) = om2 at *
    have st2 := st.ext E2
    have hc2 := Ch.hc st2.ch
    have pu2 := pu_state (K := X.K) st2.ch h64 st2.wf.keys_nodup
    have pn2 := pn_minutes (K := X.K) st2.ch
    have xi := Ks.xi _ (xnm_in o)
    have lV : Kl X "ValueError" (.type "ValueError") := Kl.ty "ValueError" B.valueError PyProof.Rows.Boot.«ValueError» (by decide) (by decide)
    have kV := Kv _ (xnm_in o)
    have puT : Pu (G_wtold (K := X.K)) om2 [.obj a] (dueD o) := .mk fun Q R q => ⟨a, o, rfl, ha2, q⟩
    have puM : Pu (G_wmany (K := X.K)) om2 [.obj a] (.int 1) := .mk fun Q R q => ⟨a, o, rfl, ha2, q⟩
    apply st_no (k := isN (D.obj a) || (!true || (false || !decide ((1 : Int) = 1))))
    · refine tv_bool (b_or ?_ fun _ => b_or ?_ fun _ => b_or (tv_cmp (x := dueD o) (y := dueD o) ?_ ?_ (op_sameN (un_64 un) (dueD_pd o) (dueD_pd o) (dueP_pk o)) (by exact "sd")) fun _ => b_or1 (tv_cmp (x := .int 1) (y := .int 1) ?_ ?_ c_neI (by exact "sd")))
      · exact "t"
      · exact "t"
      · exact v_call D5 (Room.mono room (by decide)) (by exact "av") rfl puT (by exact "gl") (by decide) rfl rfl
      · exact "v"
      · exact v_call D6 (Room.mono room (by decide)) (by exact "av") rfl puM (by exact "gl") (by decide) rfl rfl
      · exact "v"
    · rfl
    have pdl : Pd om2 (.lst (s.rows.map .str)) (.list (s.rows.map .str)) := Pd.l (PdL.strs _)
    have pkr : pok (.list (s.rows.map PyData.str)) := pok_of (pokn_list (all_map (fun _ => pokn_str) _))
    have kks : pok s.stateP := pok_of ⟨ChSt.state_pk.1, Nat.le_trans ChSt.state_pk.2 (by decide)⟩
    refine ret_v (d := .bl (true && true)) (v_and (v_cmp (x := s.stateD) (y := s.stateD) (v_meth0 (show wv X _ om2 _ (.obj (L' .c)) from ?_) hc2 rfl M1 (Room.mono room (by decide)) pu2 rfl) ?_ (op_same (un_64 un) ChSt.state_pd kks) (by exact "sd")) fun _ => v_bool1 (v_cmp (x := .lst (s.rows.map .str)) (y := .lst (s.rows.map .str)) (wn.v (n_meth0 (show wv X _ om2 _ (.obj (L' .c)) from ?_) hc2 rfl M2 (Room.mono room (by decide)) pn2 rfl)) ?_ (op_same (un_64 un) pdl pkr) (by exact "sd"))) (q om2)
    · exact "v"
    · exact "v"
    · exact "v"
    · exact "v"
--SEG
end
theorem start_law (ns : List Int) (h : ns.length ≤ 63) : G_law [.scr ns] (fun _ => none) (fun d _ => d = .bl true) (fun _ _ _ => False) := ⟨ns, rfl, h, fun _ => rfl⟩
theorem facts (w : World) (K : PySem.W.Frag) (mg : Str → Option Value) (fa : Addr) (h : Heap) (X : K.In h) (G : h.Ns mainGlobals mg) (hfa : mg "law" = some (.ref fa)) (c : SaysM fsL fnL K) :
    ∃ fd : FuncData, (∀ (s : Shared) (u : Value), BindsTo s fd ⟨[u], []⟩ [("_law_script", u)]) ∧ ∀ base : Heap, K.In base → base.Ns mainGlobals mg → FnOk (PySem.Challenge.rw_moot_k14_refusals_apart).prog w K mg base (L2.CX (PySem.Challenge.rw_moot_k14_refusals_apart).prog w) 9 fa fd ["_law_script"] (spD K 1 G_law) := by
  have B : Blt mg := fBlt_ok X G (c.fact 0 (f := fFree18) rfl)
  obtain ⟨fd_fits, F_fits⟩ := c.def_ 0 (d := d_fits) rfl
  have g_fits := fGlo_ok X G (c.fact 1 (f := fGlo "fits") rfl)
  have b_fits := F_fits.bindsN (ps := ["things", "edit"]) fun _ _ _ _ _ _ us hl => match us, hl with | [_, _], _ => rfl
  obtain ⟨fd_laid, F_laid⟩ := c.def_ 1 (d := d_laid) rfl
  have g_laid := fGlo_ok X G (c.fact 2 (f := fGlo "laid") rfl)
  have b_laid := F_laid.bindsN (ps := ["things", "edit"]) fun _ _ _ _ _ _ us hl => match us, hl with | [_, _], _ => rfl
  obtain ⟨fd_words_of, F_words_of⟩ := c.def_ 2 (d := d_words_of) rfl
  have g_words_of := fGlo_ok X G (c.fact 3 (f := fGlo "words_of") rfl)
  have b_words_of := F_words_of.bindsN (ps := ["clause"]) fun _ _ _ _ _ _ us hl => match us, hl with | [_], _ => rfl
  obtain ⟨fd_clause_of, F_clause_of⟩ := c.def_ 3 (d := d_clause_of) rfl
  have g_clause_of := fGlo_ok X G (c.fact 4 (f := fGlo "clause_of") rfl)
  have b_clause_of := F_clause_of.bindsN (ps := ["words"]) fun _ _ _ _ _ _ us hl => match us, hl with | [_], _ => rfl
  obtain ⟨fd_show_text, F_show_text⟩ := c.def_ 4 (d := d_show_text) rfl
  have g_show_text := fGlo_ok X G (c.fact 5 (f := fGlo "show_text") rfl)
  have b_show_text := F_show_text.bindsN (ps := ["text"]) fun _ _ _ _ _ _ us hl => match us, hl with | [_], _ => rfl
  obtain ⟨fd_show_edit, F_show_edit⟩ := c.def_ 5 (d := d_show_edit) rfl
  have g_show_edit := fGlo_ok X G (c.fact 6 (f := fGlo "show_edit") rfl)
  have b_show_edit := F_show_edit.bindsN (ps := ["edit"]) fun _ _ _ _ _ _ us hl => match us, hl with | [_], _ => rfl
  obtain ⟨fd_show_deed, F_show_deed⟩ := c.def_ 6 (d := d_show_deed) rfl
  have g_show_deed := fGlo_ok X G (c.fact 7 (f := fGlo "show_deed") rfl)
  have b_show_deed := F_show_deed.bindsN (ps := ["deed"]) fun _ _ _ _ _ _ us hl => match us, hl with | [_], _ => rfl
  obtain ⟨fd_Motion_need, F_Motion_need⟩ := c.def_ 7 (d := d_Motion_need) rfl
  have m_Motion_need := He.meth_ok (c.fact 8 (f := fMeth "Motion" "need") rfl)
  have b_Motion_need := F_Motion_need.bindsN (ps := ["self"]) fun _ _ _ _ _ _ us hl => match us, hl with | [_], _ => rfl
  obtain ⟨fd_Matter_init, F_Matter_init⟩ := c.def_ 8 (d := d_Matter_init) rfl
  have m_Matter_init := He.meth_ok (c.fact 9 (f := fMeth "Matter" "__init__") rfl)
  have b_Matter_init := F_Matter_init.bindsN (ps := ["self", "text"]) fun _ _ _ _ _ _ us hl => match us, hl with | [_, _], _ => rfl
  obtain ⟨fd_Matter_kind, F_Matter_kind⟩ := c.def_ 9 (d := d_Matter_kind) rfl
  have m_Matter_kind := He.meth_ok (c.fact 10 (f := fMeth "Matter" "kind") rfl)
  have b_Matter_kind := F_Matter_kind.bindsN (ps := ["self"]) fun _ _ _ _ _ _ us hl => match us, hl with | [_], _ => rfl
  obtain ⟨fd_Matter_rank, F_Matter_rank⟩ := c.def_ 10 (d := d_Matter_rank) rfl
  have m_Matter_rank := He.meth_ok (c.fact 11 (f := fMeth "Matter" "rank") rfl)
  have b_Matter_rank := F_Matter_rank.bindsN (ps := ["self"]) fun _ _ _ _ _ _ us hl => match us, hl with | [_], _ => rfl
  obtain ⟨fd_Matter_told, F_Matter_told⟩ := c.def_ 11 (d := d_Matter_told) rfl
  have m_Matter_told := He.meth_ok (c.fact 12 (f := fMeth "Matter" "told") rfl)
  have b_Matter_told := F_Matter_told.bindsN (ps := ["self"]) fun _ _ _ _ _ _ us hl => match us, hl with | [_], _ => rfl
  obtain ⟨fd_Change_init, F_Change_init⟩ := c.def_ 12 (d := d_Change_init) rfl
  have m_Change_init := He.meth_ok (c.fact 13 (f := fMeth "Change" "__init__") rfl)
  have b_Change_init := F_Change_init.bindsN (ps := ["self", "edit"]) fun _ _ _ _ _ _ us hl => match us, hl with | [_, _], _ => rfl
  obtain ⟨fd_Change_kind, F_Change_kind⟩ := c.def_ 13 (d := d_Change_kind) rfl
  have m_Change_kind := He.meth_ok (c.fact 14 (f := fMeth "Change" "kind") rfl)
  have b_Change_kind := F_Change_kind.bindsN (ps := ["self"]) fun _ _ _ _ _ _ us hl => match us, hl with | [_], _ => rfl
  obtain ⟨fd_Change_rank, F_Change_rank⟩ := c.def_ 14 (d := d_Change_rank) rfl
  have m_Change_rank := He.meth_ok (c.fact 15 (f := fMeth "Change" "rank") rfl)
  have b_Change_rank := F_Change_rank.bindsN (ps := ["self"]) fun _ _ _ _ _ _ us hl => match us, hl with | [_], _ => rfl
  obtain ⟨fd_Change_told, F_Change_told⟩ := c.def_ 15 (d := d_Change_told) rfl
  have m_Change_told := He.meth_ok (c.fact 16 (f := fMeth "Change" "told") rfl)
  have b_Change_told := F_Change_told.bindsN (ps := ["self"]) fun _ _ _ _ _ _ us hl => match us, hl with | [_], _ => rfl
  obtain ⟨fd_Mend_init, F_Mend_init⟩ := c.def_ 16 (d := d_Mend_init) rfl
  have m_Mend_init := He.meth_ok (c.fact 17 (f := fMeth "Mend" "__init__") rfl)
  have b_Mend_init := F_Mend_init.bindsN (ps := ["self", "edit"]) fun _ _ _ _ _ _ us hl => match us, hl with | [_, _], _ => rfl
  obtain ⟨fd_Mend_kind, F_Mend_kind⟩ := c.def_ 17 (d := d_Mend_kind) rfl
  have m_Mend_kind := He.meth_ok (c.fact 18 (f := fMeth "Mend" "kind") rfl)
  have b_Mend_kind := F_Mend_kind.bindsN (ps := ["self"]) fun _ _ _ _ _ _ us hl => match us, hl with | [_], _ => rfl
  obtain ⟨fd_Mend_rank, F_Mend_rank⟩ := c.def_ 18 (d := d_Mend_rank) rfl
  have m_Mend_rank := He.meth_ok (c.fact 19 (f := fMeth "Mend" "rank") rfl)
  have b_Mend_rank := F_Mend_rank.bindsN (ps := ["self"]) fun _ _ _ _ _ _ us hl => match us, hl with | [_], _ => rfl
  obtain ⟨fd_Mend_told, F_Mend_told⟩ := c.def_ 19 (d := d_Mend_told) rfl
  have m_Mend_told := He.meth_ok (c.fact 20 (f := fMeth "Mend" "told") rfl)
  have b_Mend_told := F_Mend_told.bindsN (ps := ["self"]) fun _ _ _ _ _ _ us hl => match us, hl with | [_], _ => rfl
  obtain ⟨fd_PutOff_init, F_PutOff_init⟩ := c.def_ 20 (d := d_PutOff_init) rfl
  have m_PutOff_init := He.meth_ok (c.fact 21 (f := fMeth "PutOff" "__init__") rfl)
  have b_PutOff_init := F_PutOff_init.bindsN (ps := ["self", "sitting"]) fun _ _ _ _ _ _ us hl => match us, hl with | [_, _], _ => rfl
  obtain ⟨fd_PutOff_kind, F_PutOff_kind⟩ := c.def_ 21 (d := d_PutOff_kind) rfl
  have m_PutOff_kind := He.meth_ok (c.fact 22 (f := fMeth "PutOff" "kind") rfl)
  have b_PutOff_kind := F_PutOff_kind.bindsN (ps := ["self"]) fun _ _ _ _ _ _ us hl => match us, hl with | [_], _ => rfl
  obtain ⟨fd_PutOff_rank, F_PutOff_rank⟩ := c.def_ 22 (d := d_PutOff_rank) rfl
  have m_PutOff_rank := He.meth_ok (c.fact 23 (f := fMeth "PutOff" "rank") rfl)
  have b_PutOff_rank := F_PutOff_rank.bindsN (ps := ["self"]) fun _ _ _ _ _ _ us hl => match us, hl with | [_], _ => rfl
  obtain ⟨fd_PutOff_told, F_PutOff_told⟩ := c.def_ 23 (d := d_PutOff_told) rfl
  have m_PutOff_told := He.meth_ok (c.fact 24 (f := fMeth "PutOff" "told") rfl)
  have b_PutOff_told := F_PutOff_told.bindsN (ps := ["self"]) fun _ _ _ _ _ _ us hl => match us, hl with | [_], _ => rfl
  obtain ⟨fd_Close_kind, F_Close_kind⟩ := c.def_ 24 (d := d_Close_kind) rfl
  have m_Close_kind := He.meth_ok (c.fact 25 (f := fMeth "Close" "kind") rfl)
  have b_Close_kind := F_Close_kind.bindsN (ps := ["self"]) fun _ _ _ _ _ _ us hl => match us, hl with | [_], _ => rfl
  obtain ⟨fd_Close_rank, F_Close_rank⟩ := c.def_ 25 (d := d_Close_rank) rfl
  have m_Close_rank := He.meth_ok (c.fact 26 (f := fMeth "Close" "rank") rfl)
  have b_Close_rank := F_Close_rank.bindsN (ps := ["self"]) fun _ _ _ _ _ _ us hl => match us, hl with | [_], _ => rfl
  obtain ⟨fd_Close_need, F_Close_need⟩ := c.def_ 26 (d := d_Close_need) rfl
  have m_Close_need := He.meth_ok (c.fact 27 (f := fMeth "Close" "need") rfl)
  have b_Close_need := F_Close_need.bindsN (ps := ["self"]) fun _ _ _ _ _ _ us hl => match us, hl with | [_], _ => rfl
  obtain ⟨fd_Close_told, F_Close_told⟩ := c.def_ 27 (d := d_Close_told) rfl
  have m_Close_told := He.meth_ok (c.fact 28 (f := fMeth "Close" "told") rfl)
  have b_Close_told := F_Close_told.bindsN (ps := ["self"]) fun _ _ _ _ _ _ us hl => match us, hl with | [_], _ => rfl
  obtain ⟨fd_Lay_kind, F_Lay_kind⟩ := c.def_ 28 (d := d_Lay_kind) rfl
  have m_Lay_kind := He.meth_ok (c.fact 29 (f := fMeth "Lay" "kind") rfl)
  have b_Lay_kind := F_Lay_kind.bindsN (ps := ["self"]) fun _ _ _ _ _ _ us hl => match us, hl with | [_], _ => rfl
  obtain ⟨fd_Lay_rank, F_Lay_rank⟩ := c.def_ 29 (d := d_Lay_rank) rfl
  have m_Lay_rank := He.meth_ok (c.fact 30 (f := fMeth "Lay" "rank") rfl)
  have b_Lay_rank := F_Lay_rank.bindsN (ps := ["self"]) fun _ _ _ _ _ _ us hl => match us, hl with | [_], _ => rfl
  obtain ⟨fd_Lay_told, F_Lay_told⟩ := c.def_ 30 (d := d_Lay_told) rfl
  have m_Lay_told := He.meth_ok (c.fact 31 (f := fMeth "Lay" "told") rfl)
  have b_Lay_told := F_Lay_told.bindsN (ps := ["self"]) fun _ _ _ _ _ _ us hl => match us, hl with | [_], _ => rfl
  obtain ⟨fd_Rest_kind, F_Rest_kind⟩ := c.def_ 31 (d := d_Rest_kind) rfl
  have m_Rest_kind := He.meth_ok (c.fact 32 (f := fMeth "Rest" "kind") rfl)
  have b_Rest_kind := F_Rest_kind.bindsN (ps := ["self"]) fun _ _ _ _ _ _ us hl => match us, hl with | [_], _ => rfl
  obtain ⟨fd_Rest_rank, F_Rest_rank⟩ := c.def_ 32 (d := d_Rest_rank) rfl
  have m_Rest_rank := He.meth_ok (c.fact 33 (f := fMeth "Rest" "rank") rfl)
  have b_Rest_rank := F_Rest_rank.bindsN (ps := ["self"]) fun _ _ _ _ _ _ us hl => match us, hl with | [_], _ => rfl
  obtain ⟨fd_Rest_told, F_Rest_told⟩ := c.def_ 33 (d := d_Rest_told) rfl
  have m_Rest_told := He.meth_ok (c.fact 34 (f := fMeth "Rest" "told") rfl)
  have b_Rest_told := F_Rest_told.bindsN (ps := ["self"]) fun _ _ _ _ _ _ us hl => match us, hl with | [_], _ => rfl
  obtain ⟨fd_Point_init, F_Point_init⟩ := c.def_ 34 (d := d_Point_init) rfl
  have m_Point_init := He.meth_ok (c.fact 35 (f := fMeth "Point" "__init__") rfl)
  have b_Point_init := F_Point_init.bindsN (ps := ["self", "clause"]) fun _ _ _ _ _ _ us hl => match us, hl with | [_, _], _ => rfl
  obtain ⟨fd_Point_kind, F_Point_kind⟩ := c.def_ 35 (d := d_Point_kind) rfl
  have m_Point_kind := He.meth_ok (c.fact 36 (f := fMeth "Point" "kind") rfl)
  have b_Point_kind := F_Point_kind.bindsN (ps := ["self"]) fun _ _ _ _ _ _ us hl => match us, hl with | [_], _ => rfl
  obtain ⟨fd_Point_rank, F_Point_rank⟩ := c.def_ 36 (d := d_Point_rank) rfl
  have m_Point_rank := He.meth_ok (c.fact 37 (f := fMeth "Point" "rank") rfl)
  have b_Point_rank := F_Point_rank.bindsN (ps := ["self"]) fun _ _ _ _ _ _ us hl => match us, hl with | [_], _ => rfl
  obtain ⟨fd_Point_told, F_Point_told⟩ := c.def_ 37 (d := d_Point_told) rfl
  have m_Point_told := He.meth_ok (c.fact 38 (f := fMeth "Point" "told") rfl)
  have b_Point_told := F_Point_told.bindsN (ps := ["self"]) fun _ _ _ _ _ _ us hl => match us, hl with | [_], _ => rfl
  obtain ⟨fd_motion_of, F_motion_of⟩ := c.def_ 38 (d := d_motion_of) rfl
  have g_motion_of := fGlo_ok X G (c.fact 39 (f := fGlo "motion_of") rfl)
  have b_motion_of := F_motion_of.bindsN (ps := ["told"]) fun _ _ _ _ _ _ us hl => match us, hl with | [_], _ => rfl
  obtain ⟨fd_bar_of, F_bar_of⟩ := c.def_ 39 (d := d_bar_of) rfl
  have g_bar_of := fGlo_ok X G (c.fact 40 (f := fGlo "bar_of") rfl)
  have b_bar_of := F_bar_of.bindsN (ps := ["pile", "closed"]) fun _ _ _ _ _ _ us hl => match us, hl with | [_, _], _ => rfl
  obtain ⟨fd_is_mendable, F_is_mendable⟩ := c.def_ 40 (d := d_is_mendable) rfl
  have g_is_mendable := fGlo_ok X G (c.fact 41 (f := fGlo "is_mendable") rfl)
  have b_is_mendable := F_is_mendable.bindsN (ps := ["motion"]) fun _ _ _ _ _ _ us hl => match us, hl with | [_], _ => rfl
  obtain ⟨fd_is_kept, F_is_kept⟩ := c.def_ 41 (d := d_is_kept) rfl
  have g_is_kept := fGlo_ok X G (c.fact 42 (f := fGlo "is_kept") rfl)
  have b_is_kept := F_is_kept.bindsN (ps := ["need", "ayes", "noes"]) fun _ _ _ _ _ _ us hl => match us, hl with | [_, _, _], _ => rfl
  obtain ⟨fd_Chamber_on_pile, F_Chamber_on_pile⟩ := c.def_ 42 (d := d_Chamber_on_pile) rfl
  have m_Chamber_on_pile := He.meth_ok (c.fact 43 (f := fMeth "Chamber" "on_pile") rfl)
  have b_Chamber_on_pile := F_Chamber_on_pile.bindsN (ps := ["self"]) fun _ _ _ _ _ _ us hl => match us, hl with | [_], _ => rfl
  obtain ⟨fd_Chamber_bar_now, F_Chamber_bar_now⟩ := c.def_ 43 (d := d_Chamber_bar_now) rfl
  have m_Chamber_bar_now := He.meth_ok (c.fact 44 (f := fMeth "Chamber" "bar_now") rfl)
  have b_Chamber_bar_now := F_Chamber_bar_now.bindsN (ps := ["self"]) fun _ _ _ _ _ _ us hl => match us, hl with | [_], _ => rfl
  obtain ⟨fd_Chamber_top, F_Chamber_top⟩ := c.def_ 44 (d := d_Chamber_top) rfl
  have m_Chamber_top := He.meth_ok (c.fact 45 (f := fMeth "Chamber" "top") rfl)
  have b_Chamber_top := F_Chamber_top.bindsN (ps := ["self"]) fun _ _ _ _ _ _ us hl => match us, hl with | [_], _ => rfl
  obtain ⟨fd_Chamber_matter, F_Chamber_matter⟩ := c.def_ 45 (d := d_Chamber_matter) rfl
  have m_Chamber_matter := He.meth_ok (c.fact 46 (f := fMeth "Chamber" "matter") rfl)
  have b_Chamber_matter := F_Chamber_matter.bindsN (ps := ["self"]) fun _ _ _ _ _ _ us hl => match us, hl with | [_], _ => rfl
  obtain ⟨fd_need_matter, F_need_matter⟩ := c.def_ 46 (d := d_need_matter) rfl
  have g_need_matter := fGlo_ok X G (c.fact 47 (f := fGlo "need_matter") rfl)
  have b_need_matter := F_need_matter.bindsN (ps := ["house"]) fun _ _ _ _ _ _ us hl => match us, hl with | [_], _ => rfl
  obtain ⟨fd_Motion_check, F_Motion_check⟩ := c.def_ 47 (d := d_Motion_check) rfl
  have m_Motion_check := He.meth_ok (c.fact 48 (f := fMeth "Motion" "check") rfl)
  have b_Motion_check := F_Motion_check.bindsN (ps := ["self", "house"]) fun _ _ _ _ _ _ us hl => match us, hl with | [_, _], _ => rfl
  obtain ⟨fd_Motion_keep, F_Motion_keep⟩ := c.def_ 48 (d := d_Motion_keep) rfl
  have m_Motion_keep := He.meth_ok (c.fact 49 (f := fMeth "Motion" "keep") rfl)
  have b_Motion_keep := F_Motion_keep.bindsN (ps := ["self", "house"]) fun _ _ _ _ _ _ us hl => match us, hl with | [_, _], _ => rfl
  obtain ⟨fd_Change_check, F_Change_check⟩ := c.def_ 49 (d := d_Change_check) rfl
  have m_Change_check := He.meth_ok (c.fact 50 (f := fMeth "Change" "check") rfl)
  have b_Change_check := F_Change_check.bindsN (ps := ["self", "house"]) fun _ _ _ _ _ _ us hl => match us, hl with | [_, _], _ => rfl
  obtain ⟨fd_NotLater_init, F_NotLater_init⟩ := c.def_ 50 (d := d_NotLater_init) rfl
  have m_NotLater_init := He.meth_ok (c.fact 51 (f := fMeth "NotLater" "__init__") rfl)
  have b_NotLater_init := F_NotLater_init.bindsN (ps := ["self", "sitting"]) fun _ _ _ _ _ _ us hl => match us, hl with | [_, _], _ => rfl
  obtain ⟨fd_PutOff_check, F_PutOff_check⟩ := c.def_ 51 (d := d_PutOff_check) rfl
  have m_PutOff_check := He.meth_ok (c.fact 52 (f := fMeth "PutOff" "check") rfl)
  have b_PutOff_check := F_PutOff_check.bindsN (ps := ["self", "house"]) fun _ _ _ _ _ _ us hl => match us, hl with | [_, _], _ => rfl
  obtain ⟨fd_Close_check, F_Close_check⟩ := c.def_ 52 (d := d_Close_check) rfl
  have m_Close_check := He.meth_ok (c.fact 53 (f := fMeth "Close" "check") rfl)
  have b_Close_check := F_Close_check.bindsN (ps := ["self", "house"]) fun _ _ _ _ _ _ us hl => match us, hl with | [_, _], _ => rfl
  obtain ⟨fd_Lay_check, F_Lay_check⟩ := c.def_ 53 (d := d_Lay_check) rfl
  have m_Lay_check := He.meth_ok (c.fact 54 (f := fMeth "Lay" "check") rfl)
  have b_Lay_check := F_Lay_check.bindsN (ps := ["self", "house"]) fun _ _ _ _ _ _ us hl => match us, hl with | [_, _], _ => rfl
  obtain ⟨fd_Mend_check, F_Mend_check⟩ := c.def_ 54 (d := d_Mend_check) rfl
  have m_Mend_check := He.meth_ok (c.fact 55 (f := fMeth "Mend" "check") rfl)
  have b_Mend_check := F_Mend_check.bindsN (ps := ["self", "house"]) fun _ _ _ _ _ _ us hl => match us, hl with | [_, _], _ => rfl
  obtain ⟨fd_Chamber_close, F_Chamber_close⟩ := c.def_ 55 (d := d_Chamber_close) rfl
  have m_Chamber_close := He.meth_ok (c.fact 56 (f := fMeth "Chamber" "close") rfl)
  have b_Chamber_close := F_Chamber_close.bindsN (ps := ["self"]) fun _ _ _ _ _ _ us hl => match us, hl with | [_], _ => rfl
  obtain ⟨fd_Chamber_next_sitting, F_Chamber_next_sitting⟩ := c.def_ 56 (d := d_Chamber_next_sitting) rfl
  have m_Chamber_next_sitting := He.meth_ok (c.fact 57 (f := fMeth "Chamber" "next_sitting") rfl)
  have b_Chamber_next_sitting := F_Chamber_next_sitting.bindsN (ps := ["self"]) fun _ _ _ _ _ _ us hl => match us, hl with | [_], _ => rfl
  obtain ⟨fd_Chamber_note, F_Chamber_note⟩ := c.def_ 57 (d := d_Chamber_note) rfl
  have m_Chamber_note := He.meth_ok (c.fact 58 (f := fMeth "Chamber" "note") rfl)
  have b_Chamber_note := F_Chamber_note.bindsN (ps := ["self", "deed"]) fun _ _ _ _ _ _ us hl => match us, hl with | [_, _], _ => rfl
  obtain ⟨fd_Chamber_ended, F_Chamber_ended⟩ := c.def_ 58 (d := d_Chamber_ended) rfl
  have m_Chamber_ended := He.meth_ok (c.fact 59 (f := fMeth "Chamber" "ended") rfl)
  have b_Chamber_ended := F_Chamber_ended.bindsN (ps := ["self", "word"]) fun _ _ _ _ _ _ us hl => match us, hl with | [_, _], _ => rfl
  obtain ⟨fd_Chamber_set_aside, F_Chamber_set_aside⟩ := c.def_ 59 (d := d_Chamber_set_aside) rfl
  have m_Chamber_set_aside := He.meth_ok (c.fact 60 (f := fMeth "Chamber" "set_aside") rfl)
  have b_Chamber_set_aside := F_Chamber_set_aside.bindsN (ps := ["self", "until"]) fun _ _ _ _ _ _ us hl => match us, hl with | [_, _], _ => rfl
  obtain ⟨fd_Matter_lay, F_Matter_lay⟩ := c.def_ 60 (d := d_Matter_lay) rfl
  have m_Matter_lay := He.meth_ok (c.fact 61 (f := fMeth "Matter" "lay") rfl)
  have b_Matter_lay := F_Matter_lay.bindsN (ps := ["self", "edit"]) fun _ _ _ _ _ _ us hl => match us, hl with | [_, _], _ => rfl
  obtain ⟨fd_Change_mend, F_Change_mend⟩ := c.def_ 61 (d := d_Change_mend) rfl
  have m_Change_mend := He.meth_ok (c.fact 62 (f := fMeth "Change" "mend") rfl)
  have b_Change_mend := F_Change_mend.bindsN (ps := ["self", "edit"]) fun _ _ _ _ _ _ us hl => match us, hl with | [_, _], _ => rfl
  obtain ⟨fd_Change_keep, F_Change_keep⟩ := c.def_ 62 (d := d_Change_keep) rfl
  have m_Change_keep := He.meth_ok (c.fact 63 (f := fMeth "Change" "keep") rfl)
  have b_Change_keep := F_Change_keep.bindsN (ps := ["self", "house"]) fun _ _ _ _ _ _ us hl => match us, hl with | [_, _], _ => rfl
  obtain ⟨fd_Mend_keep, F_Mend_keep⟩ := c.def_ 63 (d := d_Mend_keep) rfl
  have m_Mend_keep := He.meth_ok (c.fact 64 (f := fMeth "Mend" "keep") rfl)
  have b_Mend_keep := F_Mend_keep.bindsN (ps := ["self", "house"]) fun _ _ _ _ _ _ us hl => match us, hl with | [_, _], _ => rfl
  obtain ⟨fd_PutOff_keep, F_PutOff_keep⟩ := c.def_ 64 (d := d_PutOff_keep) rfl
  have m_PutOff_keep := He.meth_ok (c.fact 65 (f := fMeth "PutOff" "keep") rfl)
  have b_PutOff_keep := F_PutOff_keep.bindsN (ps := ["self", "house"]) fun _ _ _ _ _ _ us hl => match us, hl with | [_, _], _ => rfl
  obtain ⟨fd_Close_keep, F_Close_keep⟩ := c.def_ 65 (d := d_Close_keep) rfl
  have m_Close_keep := He.meth_ok (c.fact 66 (f := fMeth "Close" "keep") rfl)
  have b_Close_keep := F_Close_keep.bindsN (ps := ["self", "house"]) fun _ _ _ _ _ _ us hl => match us, hl with | [_, _], _ => rfl
  obtain ⟨fd_Lay_keep, F_Lay_keep⟩ := c.def_ 66 (d := d_Lay_keep) rfl
  have m_Lay_keep := He.meth_ok (c.fact 67 (f := fMeth "Lay" "keep") rfl)
  have b_Lay_keep := F_Lay_keep.bindsN (ps := ["self", "house"]) fun _ _ _ _ _ _ us hl => match us, hl with | [_, _], _ => rfl
  obtain ⟨fd_Rest_keep, F_Rest_keep⟩ := c.def_ 67 (d := d_Rest_keep) rfl
  have m_Rest_keep := He.meth_ok (c.fact 68 (f := fMeth "Rest" "keep") rfl)
  have b_Rest_keep := F_Rest_keep.bindsN (ps := ["self", "house"]) fun _ _ _ _ _ _ us hl => match us, hl with | [_, _], _ => rfl
  obtain ⟨fd_Barred_init, F_Barred_init⟩ := c.def_ 68 (d := d_Barred_init) rfl
  have m_Barred_init := He.meth_ok (c.fact 69 (f := fMeth "Barred" "__init__") rfl)
  have b_Barred_init := F_Barred_init.bindsN (ps := ["self", "bar"]) fun _ _ _ _ _ _ us hl => match us, hl with | [_, _], _ => rfl
  obtain ⟨fd_NotYet_init, F_NotYet_init⟩ := c.def_ 69 (d := d_NotYet_init) rfl
  have m_NotYet_init := He.meth_ok (c.fact 70 (f := fMeth "NotYet" "__init__") rfl)
  have b_NotYet_init := F_NotYet_init.bindsN (ps := ["self", "sitting"]) fun _ _ _ _ _ _ us hl => match us, hl with | [_, _], _ => rfl
  obtain ⟨fd_Chamber_move, F_Chamber_move⟩ := c.def_ 70 (d := d_Chamber_move) rfl
  have m_Chamber_move := He.meth_ok (c.fact 71 (f := fMeth "Chamber" "move") rfl)
  have b_Chamber_move := F_Chamber_move.bindsN (ps := ["self", "told"]) fun _ _ _ _ _ _ us hl => match us, hl with | [_, _], _ => rfl
  obtain ⟨fd_Chamber_drop, F_Chamber_drop⟩ := c.def_ 71 (d := d_Chamber_drop) rfl
  have m_Chamber_drop := He.meth_ok (c.fact 72 (f := fMeth "Chamber" "drop") rfl)
  have b_Chamber_drop := F_Chamber_drop.bindsN (ps := ["self"]) fun _ _ _ _ _ _ us hl => match us, hl with | [_], _ => rfl
  obtain ⟨fd_Chamber_vote, F_Chamber_vote⟩ := c.def_ 72 (d := d_Chamber_vote) rfl
  have m_Chamber_vote := He.meth_ok (c.fact 73 (f := fMeth "Chamber" "vote") rfl)
  have b_Chamber_vote := F_Chamber_vote.bindsN (ps := ["self", "ayes", "noes"]) fun _ _ _ _ _ _ us hl => match us, hl with | [_, _, _], _ => rfl
  obtain ⟨fd_Chamber_take, F_Chamber_take⟩ := c.def_ 73 (d := d_Chamber_take) rfl
  have m_Chamber_take := He.meth_ok (c.fact 74 (f := fMeth "Chamber" "take") rfl)
  have b_Chamber_take := F_Chamber_take.bindsN (ps := ["self", "number"]) fun _ _ _ _ _ _ us hl => match us, hl with | [_, _], _ => rfl
  obtain ⟨fd_Chamber_motion, F_Chamber_motion⟩ := c.def_ 74 (d := d_Chamber_motion) rfl
  have m_Chamber_motion := He.meth_ok (c.fact 75 (f := fMeth "Chamber" "motion") rfl)
  have b_Chamber_motion := F_Chamber_motion.bindsN (ps := ["self", "number"]) fun _ _ _ _ _ _ us hl => match us, hl with | [_, _], _ => rfl
  obtain ⟨fd_Chamber_state, F_Chamber_state⟩ := c.def_ 75 (d := d_Chamber_state) rfl
  have m_Chamber_state := He.meth_ok (c.fact 76 (f := fMeth "Chamber" "state") rfl)
  have b_Chamber_state := F_Chamber_state.bindsN (ps := ["self"]) fun _ _ _ _ _ _ us hl => match us, hl with | [_], _ => rfl
  obtain ⟨fd_Chamber_init, F_Chamber_init⟩ := c.def_ 76 (d := d_Chamber_init) rfl
  have m_Chamber_init := He.meth_ok (c.fact 77 (f := fMeth "Chamber" "__init__") rfl)
  have b_Chamber_init := F_Chamber_init.bindsN (ps := ["self", "seats"]) fun _ _ _ _ _ _ us hl => match us, hl with | [_, _], _ => rfl
  obtain ⟨fd_Chamber_matter_of, F_Chamber_matter_of⟩ := c.def_ 77 (d := d_Chamber_matter_of) rfl
  have m_Chamber_matter_of := He.meth_ok (c.fact 78 (f := fMeth "Chamber" "matter_of") rfl)
  have b_Chamber_matter_of := F_Chamber_matter_of.bindsN (ps := ["self", "number"]) fun _ _ _ _ _ _ us hl => match us, hl with | [_, _], _ => rfl
  obtain ⟨fd_Chamber_kept_changes, F_Chamber_kept_changes⟩ := c.def_ 78 (d := d_Chamber_kept_changes) rfl
  have m_Chamber_kept_changes := He.meth_ok (c.fact 79 (f := fMeth "Chamber" "kept_changes") rfl)
  have b_Chamber_kept_changes := F_Chamber_kept_changes.bindsN (ps := ["self", "number"]) fun _ _ _ _ _ _ us hl => match us, hl with | [_, _], _ => rfl
  obtain ⟨fd_Chamber_first_text, F_Chamber_first_text⟩ := c.def_ 79 (d := d_Chamber_first_text) rfl
  have m_Chamber_first_text := He.meth_ok (c.fact 80 (f := fMeth "Chamber" "first_text") rfl)
  have b_Chamber_first_text := F_Chamber_first_text.bindsN (ps := ["self", "number"]) fun _ _ _ _ _ _ us hl => match us, hl with | [_, _], _ => rfl
  obtain ⟨fd_Chamber_minutes, F_Chamber_minutes⟩ := c.def_ 80 (d := d_Chamber_minutes) rfl
  have m_Chamber_minutes := He.meth_ok (c.fact 81 (f := fMeth "Chamber" "minutes") rfl)
  have b_Chamber_minutes := F_Chamber_minutes.bindsN (ps := ["self"]) fun _ _ _ _ _ _ us hl => match us, hl with | [_], _ => rfl
  obtain ⟨fd_wcell_at, F_wcell_at⟩ := c.def_ 81 (d := d_wcell_at) rfl
  have g_wcell_at := fGlo_ok X G (c.fact 82 (f := fGlo "_law_cell_at") rfl)
  have b_wcell_at := F_wcell_at.bindsN (ps := ["_law_script", "_law_k"]) fun _ _ _ _ _ _ us hl => match us, hl with | [_, _], _ => rfl
  obtain ⟨fd_wword, F_wword⟩ := c.def_ 82 (d := d_wword) rfl
  have g_wword := fGlo_ok X G (c.fact 83 (f := fGlo "_law_word") rfl)
  have b_wword := F_wword.bindsN (ps := ["_law_cell"]) fun _ _ _ _ _ _ us hl => match us, hl with | [_], _ => rfl
  obtain ⟨fd_wclause, F_wclause⟩ := c.def_ 83 (d := d_wclause) rfl
  have g_wclause := fGlo_ok X G (c.fact 84 (f := fGlo "_law_clause") rfl)
  have b_wclause := F_wclause.bindsN (ps := ["_law_cell"]) fun _ _ _ _ _ _ us hl => match us, hl with | [_], _ => rfl
  obtain ⟨fd_wdo, F_wdo⟩ := c.def_ 84 (d := d_wdo) rfl
  have g_wdo := fGlo_ok X G (c.fact 85 (f := fGlo "_law_do") rfl)
  have b_wdo := F_wdo.bindsN (ps := ["_law_chamber", "_law_deed"]) fun _ _ _ _ _ _ us hl => match us, hl with | [_, _], _ => rfl
  obtain ⟨fd_wcases, F_wcases⟩ := c.def_ 85 (d := d_wcases) rfl
  have g_wcases := fGlo_ok X G (c.fact 86 (f := fGlo "_law_cases") rfl)
  have b_wcases := F_wcases.bindsN (ps := ["_law_script"]) fun _ _ _ _ _ _ us hl => match us, hl with | [_], _ => rfl
  obtain ⟨fd_wtold, F_wtold⟩ := c.def_ 86 (d := d_wtold) rfl
  have g_wtold := fGlo_ok X G (c.fact 87 (f := fGlo "_law_told") rfl)
  have b_wtold := F_wtold.bindsN (ps := ["_law_e"]) fun _ _ _ _ _ _ us hl => match us, hl with | [_], _ => rfl
  obtain ⟨fd_wmany, F_wmany⟩ := c.def_ 87 (d := d_wmany) rfl
  have g_wmany := fGlo_ok X G (c.fact 88 (f := fGlo "_law_many") rfl)
  have b_wmany := F_wmany.bindsN (ps := ["_law_e"]) fun _ _ _ _ _ _ us hl => match us, hl with | [_], _ => rfl
  obtain ⟨fd_law, F_law⟩ := c.def_ 88 (d := d_law) rfl
  have g_law := fGlo_ok X G (c.fact 89 (f := fGlo "law") rfl)
  have b_law := F_law.bindsN (ps := ["_law_script"]) fun _ _ _ _ _ _ us hl => match us, hl with | [_], _ => rfl
  have at_Matter_first := fAtt_ok (c.fact 90 (f := fAtt "Matter" "first") rfl)
  have at_Matter_text := fAtt_ok (c.fact 91 (f := fAtt "Matter" "text") rfl)
  have at_Matter_changes := fAtt_ok (c.fact 92 (f := fAtt "Matter" "changes") rfl)
  have at_Change_edit := fAtt_ok (c.fact 93 (f := fAtt "Change" "edit") rfl)
  have at_Mend_edit := fAtt_ok (c.fact 94 (f := fAtt "Mend" "edit") rfl)
  have at_PutOff_sitting := fAtt_ok (c.fact 95 (f := fAtt "PutOff" "sitting") rfl)
  have at_Point_clause := fAtt_ok (c.fact 96 (f := fAtt "Point" "clause") rfl)
  have mk_Close := fMk0_ok X G (c.fact 97 (f := fMk0 "Close") rfl)
  have mk_Lay := fMk0_ok X G (c.fact 98 (f := fMk0 "Lay") rfl)
  have mk_Rest := fMk0_ok X G (c.fact 99 (f := fMk0 "Rest") rfl)
  have g_Motion := fGlo_ok X G (c.fact 100 (f := fGlo "Motion") rfl)
  have g_Matter := fGlo_ok X G (c.fact 101 (f := fGlo "Matter") rfl)
  have g_Change := fGlo_ok X G (c.fact 102 (f := fGlo "Change") rfl)
  have g_Mend := fGlo_ok X G (c.fact 103 (f := fGlo "Mend") rfl)
  have g_PutOff := fGlo_ok X G (c.fact 104 (f := fGlo "PutOff") rfl)
  have g_Close := fGlo_ok X G (c.fact 105 (f := fGlo "Close") rfl)
  have g_Lay := fGlo_ok X G (c.fact 106 (f := fGlo "Lay") rfl)
  have g_Rest := fGlo_ok X G (c.fact 107 (f := fGlo "Rest") rfl)
  have g_Point := fGlo_ok X G (c.fact 108 (f := fGlo "Point") rfl)
  have in_Matter := fIns_ok (c.fact 109 (f := fIns "Matter") rfl)
  have in_Change := fIns_ok (c.fact 110 (f := fIns "Change") rfl)
  have in_Mend := fIns_ok (c.fact 111 (f := fIns "Mend") rfl)
  have in_PutOff := fIns_ok (c.fact 112 (f := fIns "PutOff") rfl)
  have in_Close := fIns_ok (c.fact 113 (f := fIns "Close") rfl)
  have in_Lay := fIns_ok (c.fact 114 (f := fIns "Lay") rfl)
  have in_Rest := fIns_ok (c.fact 115 (f := fIns "Rest") rfl)
  have in_Point := fIns_ok (c.fact 116 (f := fIns "Point") rfl)
  have k_sorts := (c.fact 117 (f := fSorts) rfl)
  have x0_NoFit := fX0_ok X G (c.fact 118 (f := fX0 "NoFit") rfl)
  have x0_NoMatter := fX0_ok X G (c.fact 119 (f := fX0 "NoMatter") rfl)
  have x0_NoChange := fX0_ok X G (c.fact 120 (f := fX0 "NoChange") rfl)
  have x0_Nothing := fX0_ok X G (c.fact 121 (f := fX0 "Nothing") rfl)
  have x0_TooMany := fX0_ok X G (c.fact 122 (f := fX0 "TooMany") rfl)
  have x0_NoAside := fX0_ok X G (c.fact 123 (f := fX0 "NoAside") rfl)
  have at_Chamber_seats := fAtt_ok (c.fact 124 (f := fAtt "Chamber" "seats") rfl)
  have at_Chamber_sitting := fAtt_ok (c.fact 125 (f := fAtt "Chamber" "sitting") rfl)
  have at_Chamber_closed := fAtt_ok (c.fact 126 (f := fAtt "Chamber" "closed") rfl)
  have at_Chamber_motions := fAtt_ok (c.fact 127 (f := fAtt "Chamber" "motions") rfl)
  have at_Chamber_pile := fAtt_ok (c.fact 128 (f := fAtt "Chamber" "pile") rfl)
  have at_Chamber_aside := fAtt_ok (c.fact 129 (f := fAtt "Chamber" "aside") rfl)
  have at_Chamber_decided := fAtt_ok (c.fact 130 (f := fAtt "Chamber" "decided") rfl)
  have at_Chamber_rows := fAtt_ok (c.fact 131 (f := fAtt "Chamber" "rows") rfl)
  have xf_NotLater := fun base => fXF_ok (P := (PySem.Challenge.rw_moot_k14_refusals_apart).prog) (w := w) (base := base) X G (c.fact 132 (f := fXF "NotLater" "sitting") rfl) F_NotLater_init sc_NotLater_init b_NotLater_init (by decide +kernel) rfl
  have xf_Barred := fun base => fXF_ok (P := (PySem.Challenge.rw_moot_k14_refusals_apart).prog) (w := w) (base := base) X G (c.fact 133 (f := fXF "Barred" "bar") rfl) F_Barred_init sc_Barred_init b_Barred_init (by decide +kernel) rfl
  have xf_NotYet := fun base => fXF_ok (P := (PySem.Challenge.rw_moot_k14_refusals_apart).prog) (w := w) (base := base) X G (c.fact 134 (f := fXF "NotYet" "sitting") rfl) F_NotYet_init sc_NotYet_init b_NotYet_init (by decide +kernel) rfl
  have x0_NoNumber := fX0_ok X G (c.fact 135 (f := fX0 "NoNumber") rfl)
  have rfb_ChamberError := fRfB_ok X G (c.fact 136 (f := fRfB "ChamberError") rfl)
  have em_NoNumber_ChamberError := fExm_ok (c.fact 137 (f := fExm "NoNumber" "ChamberError" true) rfl)
  have kits_all := fKits_ok X G (c.fact 138 (f := fKits rfA rfZ) rfl)
  have kitv_all := fKitV_ok (c.fact 139 (f := fKitV rfA "ValueError" true) rfl)
  cases hfa.symm.trans g_law
  refine ⟨fd_law, fun s v => FunD.bindsA (ps := ["_law_script"]) F_law (fun _ _ _ _ _ _ us hl => match us, hl with | [_], _ => rfl) s [v] rfl, fun base _ _ => ?_⟩
  have D_fits : DefOk (PySem.Challenge.rw_moot_k14_refusals_apart).prog w K mg base "fits" 1 2 G_fits := dk_of (ok_fits B  F_fits) g_fits F_fits.kp b_fits
  have D_laid : DefOk (PySem.Challenge.rw_moot_k14_refusals_apart).prog w K mg base "laid" 2 2 (G_laid (He.ga K "NoFit")) := dk_of (ok_laid B D_fits x0_NoFit F_laid) g_laid F_laid.kp b_laid
  have D_words_of : DefOk (PySem.Challenge.rw_moot_k14_refusals_apart).prog w K mg base "words_of" 1 1 G_words_of := dk_of (ok_words_of B  F_words_of) g_words_of F_words_of.kp b_words_of
  have D_clause_of : DefOk (PySem.Challenge.rw_moot_k14_refusals_apart).prog w K mg base "clause_of" 1 1 G_clause_of := dk_of (ok_clause_of B  F_clause_of) g_clause_of F_clause_of.kp b_clause_of
  have D_show_text : DefOk (PySem.Challenge.rw_moot_k14_refusals_apart).prog w K mg base "show_text" 2 1 G_show_text := dk_of (ok_show_text B D_words_of F_show_text) g_show_text F_show_text.kp b_show_text
  have D_show_edit : DefOk (PySem.Challenge.rw_moot_k14_refusals_apart).prog w K mg base "show_edit" 2 1 G_show_edit := dk_of (ok_show_edit B D_words_of F_show_edit) g_show_edit F_show_edit.kp b_show_edit
  have D_show_deed : DefOk (PySem.Challenge.rw_moot_k14_refusals_apart).prog w K mg base "show_deed" 3 1 G_show_deed := dk_of (ok_show_deed B D_words_of D_show_text D_show_edit F_show_deed) g_show_deed F_show_deed.kp b_show_deed
  have D_Motion_need : MethOk (PySem.Challenge.rw_moot_k14_refusals_apart).prog w K mg base (He.ga K "Motion") "need" 1 1 (G_const (.str "more")) := fMth_ok (c.fact 140 (f := fMth "Motion" "need") rfl) (ok_Motion_need B  F_Motion_need) b_Motion_need
  have D_Matter_need : MethOk (PySem.Challenge.rw_moot_k14_refusals_apart).prog w K mg base (He.ga K "Matter") "need" 1 1 (G_const (.str "more")) := fInh_ok (c.fact 141 (f := fInh "Matter" "Motion" "need") rfl) (ok_Motion_need B  F_Motion_need) b_Motion_need
  have D_Change_need : MethOk (PySem.Challenge.rw_moot_k14_refusals_apart).prog w K mg base (He.ga K "Change") "need" 1 1 (G_const (.str "more")) := fInh_ok (c.fact 142 (f := fInh "Change" "Motion" "need") rfl) (ok_Motion_need B  F_Motion_need) b_Motion_need
  have D_Mend_need : MethOk (PySem.Challenge.rw_moot_k14_refusals_apart).prog w K mg base (He.ga K "Mend") "need" 1 1 (G_const (.str "more")) := fInh_ok (c.fact 143 (f := fInh "Mend" "Motion" "need") rfl) (ok_Motion_need B  F_Motion_need) b_Motion_need
  have D_PutOff_need : MethOk (PySem.Challenge.rw_moot_k14_refusals_apart).prog w K mg base (He.ga K "PutOff") "need" 1 1 (G_const (.str "more")) := fInh_ok (c.fact 144 (f := fInh "PutOff" "Motion" "need") rfl) (ok_Motion_need B  F_Motion_need) b_Motion_need
  have D_Lay_need : MethOk (PySem.Challenge.rw_moot_k14_refusals_apart).prog w K mg base (He.ga K "Lay") "need" 1 1 (G_const (.str "more")) := fInh_ok (c.fact 145 (f := fInh "Lay" "Motion" "need") rfl) (ok_Motion_need B  F_Motion_need) b_Motion_need
  have D_Rest_need : MethOk (PySem.Challenge.rw_moot_k14_refusals_apart).prog w K mg base (He.ga K "Rest") "need" 1 1 (G_const (.str "more")) := fInh_ok (c.fact 146 (f := fInh "Rest" "Motion" "need") rfl) (ok_Motion_need B  F_Motion_need) b_Motion_need
  have D_Point_need : MethOk (PySem.Challenge.rw_moot_k14_refusals_apart).prog w K mg base (He.ga K "Point") "need" 1 1 (G_const (.str "more")) := fInh_ok (c.fact 147 (f := fInh "Point" "Motion" "need") rfl) (ok_Motion_need B  F_Motion_need) b_Motion_need
  have D_Matter_init : MkOk (PySem.Challenge.rw_moot_k14_refusals_apart).prog w K mg base "Matter" (He.ga K "Matter") 1 2 (G_Matter_init (He.ga K "Matter")) := fMk_ok X G (c.fact 148 (f := fMk "Matter") rfl) (ok_Matter_init B at_Matter_first at_Matter_text at_Matter_changes F_Matter_init) b_Matter_init
  have D_Matter_kind : MethOk (PySem.Challenge.rw_moot_k14_refusals_apart).prog w K mg base (He.ga K "Matter") "kind" 1 1 (G_const (.str "matter")) := fMth_ok (c.fact 149 (f := fMth "Matter" "kind") rfl) (ok_Matter_kind B  F_Matter_kind) b_Matter_kind
  have D_Matter_rank : MethOk (PySem.Challenge.rw_moot_k14_refusals_apart).prog w K mg base (He.ga K "Matter") "rank" 1 1 (G_const (.int 0)) := fMth_ok (c.fact 150 (f := fMth "Matter" "rank") rfl) (ok_Matter_rank B  F_Matter_rank) b_Matter_rank
  have D_Matter_told : MethOk (PySem.Challenge.rw_moot_k14_refusals_apart).prog w K mg base (He.ga K "Matter") "told" 1 1 (G_Matter_told (He.ga K "Matter")) := fMth_ok (c.fact 151 (f := fMth "Matter" "told") rfl) (ok_Matter_told B at_Matter_text F_Matter_told) b_Matter_told
  have D_Change_init : MkOk (PySem.Challenge.rw_moot_k14_refusals_apart).prog w K mg base "Change" (He.ga K "Change") 1 2 (G_set1 (He.ga K "Change") "edit") := fMk_ok X G (c.fact 152 (f := fMk "Change") rfl) (ok_Change_init B at_Change_edit F_Change_init) b_Change_init
  have D_Change_kind : MethOk (PySem.Challenge.rw_moot_k14_refusals_apart).prog w K mg base (He.ga K "Change") "kind" 1 1 (G_const (.str "change")) := fMth_ok (c.fact 153 (f := fMth "Change" "kind") rfl) (ok_Change_kind B  F_Change_kind) b_Change_kind
  have D_Change_rank : MethOk (PySem.Challenge.rw_moot_k14_refusals_apart).prog w K mg base (He.ga K "Change") "rank" 1 1 (G_const (.int 1)) := fMth_ok (c.fact 154 (f := fMth "Change" "rank") rfl) (ok_Change_rank B  F_Change_rank) b_Change_rank
  have D_Change_told : MethOk (PySem.Challenge.rw_moot_k14_refusals_apart).prog w K mg base (He.ga K "Change") "told" 1 1 (G_told1 (He.ga K "Change") "change" "edit") := fMth_ok (c.fact 155 (f := fMth "Change" "told") rfl) (ok_Change_told B at_Change_edit F_Change_told) b_Change_told
  have D_Mend_init : MkOk (PySem.Challenge.rw_moot_k14_refusals_apart).prog w K mg base "Mend" (He.ga K "Mend") 1 2 (G_set1 (He.ga K "Mend") "edit") := fMk_ok X G (c.fact 156 (f := fMk "Mend") rfl) (ok_Mend_init B at_Mend_edit F_Mend_init) b_Mend_init
  have D_Mend_kind : MethOk (PySem.Challenge.rw_moot_k14_refusals_apart).prog w K mg base (He.ga K "Mend") "kind" 1 1 (G_const (.str "mend")) := fMth_ok (c.fact 157 (f := fMth "Mend" "kind") rfl) (ok_Mend_kind B  F_Mend_kind) b_Mend_kind
  have D_Mend_rank : MethOk (PySem.Challenge.rw_moot_k14_refusals_apart).prog w K mg base (He.ga K "Mend") "rank" 1 1 (G_const (.int 2)) := fMth_ok (c.fact 158 (f := fMth "Mend" "rank") rfl) (ok_Mend_rank B  F_Mend_rank) b_Mend_rank
  have D_Mend_told : MethOk (PySem.Challenge.rw_moot_k14_refusals_apart).prog w K mg base (He.ga K "Mend") "told" 1 1 (G_told1 (He.ga K "Mend") "mend" "edit") := fMth_ok (c.fact 159 (f := fMth "Mend" "told") rfl) (ok_Mend_told B at_Mend_edit F_Mend_told) b_Mend_told
  have D_PutOff_init : MkOk (PySem.Challenge.rw_moot_k14_refusals_apart).prog w K mg base "PutOff" (He.ga K "PutOff") 1 2 (G_set1 (He.ga K "PutOff") "sitting") := fMk_ok X G (c.fact 160 (f := fMk "PutOff") rfl) (ok_PutOff_init B at_PutOff_sitting F_PutOff_init) b_PutOff_init
  have D_PutOff_kind : MethOk (PySem.Challenge.rw_moot_k14_refusals_apart).prog w K mg base (He.ga K "PutOff") "kind" 1 1 (G_const (.str "put off")) := fMth_ok (c.fact 161 (f := fMth "PutOff" "kind") rfl) (ok_PutOff_kind B  F_PutOff_kind) b_PutOff_kind
  have D_PutOff_rank : MethOk (PySem.Challenge.rw_moot_k14_refusals_apart).prog w K mg base (He.ga K "PutOff") "rank" 1 1 (G_const (.int 3)) := fMth_ok (c.fact 162 (f := fMth "PutOff" "rank") rfl) (ok_PutOff_rank B  F_PutOff_rank) b_PutOff_rank
  have D_PutOff_told : MethOk (PySem.Challenge.rw_moot_k14_refusals_apart).prog w K mg base (He.ga K "PutOff") "told" 1 1 (G_told1 (He.ga K "PutOff") "put off" "sitting") := fMth_ok (c.fact 163 (f := fMth "PutOff" "told") rfl) (ok_PutOff_told B at_PutOff_sitting F_PutOff_told) b_PutOff_told
  have D_Close_kind : MethOk (PySem.Challenge.rw_moot_k14_refusals_apart).prog w K mg base (He.ga K "Close") "kind" 1 1 (G_const (.str "close")) := fMth_ok (c.fact 164 (f := fMth "Close" "kind") rfl) (ok_Close_kind B  F_Close_kind) b_Close_kind
  have D_Close_rank : MethOk (PySem.Challenge.rw_moot_k14_refusals_apart).prog w K mg base (He.ga K "Close") "rank" 1 1 (G_const (.int 4)) := fMth_ok (c.fact 165 (f := fMth "Close" "rank") rfl) (ok_Close_rank B  F_Close_rank) b_Close_rank
  have D_Close_need : MethOk (PySem.Challenge.rw_moot_k14_refusals_apart).prog w K mg base (He.ga K "Close") "need" 1 1 (G_const (.str "two thirds")) := fMth_ok (c.fact 166 (f := fMth "Close" "need") rfl) (ok_Close_need B  F_Close_need) b_Close_need
  have D_Close_told : MethOk (PySem.Challenge.rw_moot_k14_refusals_apart).prog w K mg base (He.ga K "Close") "told" 1 1 (G_const (.tup [.str "close"])) := fMth_ok (c.fact 167 (f := fMth "Close" "told") rfl) (ok_Close_told B  F_Close_told) b_Close_told
  have D_Lay_kind : MethOk (PySem.Challenge.rw_moot_k14_refusals_apart).prog w K mg base (He.ga K "Lay") "kind" 1 1 (G_const (.str "lay")) := fMth_ok (c.fact 168 (f := fMth "Lay" "kind") rfl) (ok_Lay_kind B  F_Lay_kind) b_Lay_kind
  have D_Lay_rank : MethOk (PySem.Challenge.rw_moot_k14_refusals_apart).prog w K mg base (He.ga K "Lay") "rank" 1 1 (G_const (.int 5)) := fMth_ok (c.fact 169 (f := fMth "Lay" "rank") rfl) (ok_Lay_rank B  F_Lay_rank) b_Lay_rank
  have D_Lay_told : MethOk (PySem.Challenge.rw_moot_k14_refusals_apart).prog w K mg base (He.ga K "Lay") "told" 1 1 (G_const (.tup [.str "lay"])) := fMth_ok (c.fact 170 (f := fMth "Lay" "told") rfl) (ok_Lay_told B  F_Lay_told) b_Lay_told
  have D_Rest_kind : MethOk (PySem.Challenge.rw_moot_k14_refusals_apart).prog w K mg base (He.ga K "Rest") "kind" 1 1 (G_const (.str "rest")) := fMth_ok (c.fact 171 (f := fMth "Rest" "kind") rfl) (ok_Rest_kind B  F_Rest_kind) b_Rest_kind
  have D_Rest_rank : MethOk (PySem.Challenge.rw_moot_k14_refusals_apart).prog w K mg base (He.ga K "Rest") "rank" 1 1 (G_const (.int 6)) := fMth_ok (c.fact 172 (f := fMth "Rest" "rank") rfl) (ok_Rest_rank B  F_Rest_rank) b_Rest_rank
  have D_Rest_told : MethOk (PySem.Challenge.rw_moot_k14_refusals_apart).prog w K mg base (He.ga K "Rest") "told" 1 1 (G_const (.tup [.str "rest"])) := fMth_ok (c.fact 173 (f := fMth "Rest" "told") rfl) (ok_Rest_told B  F_Rest_told) b_Rest_told
  have D_Point_init : MkOk (PySem.Challenge.rw_moot_k14_refusals_apart).prog w K mg base "Point" (He.ga K "Point") 1 2 (G_set1 (He.ga K "Point") "clause") := fMk_ok X G (c.fact 174 (f := fMk "Point") rfl) (ok_Point_init B at_Point_clause F_Point_init) b_Point_init
  have D_Point_kind : MethOk (PySem.Challenge.rw_moot_k14_refusals_apart).prog w K mg base (He.ga K "Point") "kind" 1 1 (G_const (.str "point")) := fMth_ok (c.fact 175 (f := fMth "Point" "kind") rfl) (ok_Point_kind B  F_Point_kind) b_Point_kind
  have D_Point_rank : MethOk (PySem.Challenge.rw_moot_k14_refusals_apart).prog w K mg base (He.ga K "Point") "rank" 1 1 (G_const (.int 7)) := fMth_ok (c.fact 176 (f := fMth "Point" "rank") rfl) (ok_Point_rank B  F_Point_rank) b_Point_rank
  have D_Point_told : MethOk (PySem.Challenge.rw_moot_k14_refusals_apart).prog w K mg base (He.ga K "Point") "told" 1 1 (G_told1 (He.ga K "Point") "point" "clause") := fMth_ok (c.fact 177 (f := fMth "Point" "told") rfl) (ok_Point_told B at_Point_clause F_Point_told) b_Point_told
  have mot : Mots (PySem.Challenge.rw_moot_k14_refusals_apart).prog w K mg base := ⟨D_Matter_init, D_Change_init, D_Mend_init, D_PutOff_init, mk_Close, mk_Lay, mk_Rest, D_Point_init, fun m => by cases m <;> assumption, fun m => by cases m <;> assumption, fun m => by cases m <;> assumption, fun m => by cases m <;> assumption⟩
  have D_motion_of : DefOk (PySem.Challenge.rw_moot_k14_refusals_apart).prog w K mg base "motion_of" 3 1 (G_motion_of (ka K)) := dk_of (ok_motion_of B mot F_motion_of) g_motion_of F_motion_of.kp b_motion_of
  have srt : Sorts K mg := ⟨g_Motion, g_Matter, g_Change, g_Mend, g_PutOff, g_Close, g_Lay, g_Rest, g_Point, fun m => by cases m <;> assumption, fSorts_kit k_sorts, fSorts_top k_sorts⟩
  have D_bar_of : DefOk (PySem.Challenge.rw_moot_k14_refusals_apart).prog w K mg base "bar_of" 2 2 (G_bar_of (K := K)) := dk_of (ok_bar_of B mot F_bar_of) g_bar_of F_bar_of.kp b_bar_of
  have D_is_mendable : DefOk (PySem.Challenge.rw_moot_k14_refusals_apart).prog w K mg base "is_mendable" 1 1 (G_is_mendable (K := K)) := dk_of (ok_is_mendable B srt at_Change_edit F_is_mendable) g_is_mendable F_is_mendable.kp b_is_mendable
  have D_is_kept : DefOk (PySem.Challenge.rw_moot_k14_refusals_apart).prog w K mg base "is_kept" 1 3 G_is_kept := dk_of (ok_is_kept B  F_is_kept) g_is_kept F_is_kept.kp b_is_kept
  have cha : ChA K := ⟨at_Chamber_seats, at_Chamber_sitting, at_Chamber_closed, at_Chamber_motions, at_Chamber_pile, at_Chamber_aside, at_Chamber_decided, at_Chamber_rows⟩
  have D_Chamber_on_pile : MethOk (PySem.Challenge.rw_moot_k14_refusals_apart).prog w K mg base (He.ga K "Chamber") "on_pile" 1 1 (G_Chamber_on_pile (K := K)) := fMth_ok (c.fact 178 (f := fMth "Chamber" "on_pile") rfl) (ok_Chamber_on_pile B cha F_Chamber_on_pile) b_Chamber_on_pile
  have D_Chamber_bar_now : MethOk (PySem.Challenge.rw_moot_k14_refusals_apart).prog w K mg base (He.ga K "Chamber") "bar_now" 3 1 (G_Chamber_bar_now (K := K)) := fMth_ok (c.fact 179 (f := fMth "Chamber" "bar_now") rfl) (ok_Chamber_bar_now B cha D_bar_of D_Chamber_on_pile F_Chamber_bar_now) b_Chamber_bar_now
  have D_Chamber_top : MethOk (PySem.Challenge.rw_moot_k14_refusals_apart).prog w K mg base (He.ga K "Chamber") "top" 1 1 (G_Chamber_top (K := K)) := fMth_ok (c.fact 180 (f := fMth "Chamber" "top") rfl) (ok_Chamber_top B cha F_Chamber_top) b_Chamber_top
  have D_Chamber_matter : MethOk (PySem.Challenge.rw_moot_k14_refusals_apart).prog w K mg base (He.ga K "Chamber") "matter" 2 1 (G_Chamber_matter (K := K)) := fMth_ok (c.fact 181 (f := fMth "Chamber" "matter") rfl) (ok_Chamber_matter B cha srt D_Chamber_on_pile F_Chamber_matter) b_Chamber_matter
  have D_need_matter : DefOk (PySem.Challenge.rw_moot_k14_refusals_apart).prog w K mg base "need_matter" 3 1 (G_need_matter (K := K)) := dk_of (ok_need_matter B x0_NoMatter D_Chamber_matter F_need_matter) g_need_matter F_need_matter.kp b_need_matter
  have D_Motion_check : MethOk (PySem.Challenge.rw_moot_k14_refusals_apart).prog w K mg base (He.ga K "Motion") "check" 1 2 G_none2 := fMth_ok (c.fact 182 (f := fMth "Motion" "check") rfl) (ok_Motion_check B  F_Motion_check) b_Motion_check
  have D_Matter_check : MethOk (PySem.Challenge.rw_moot_k14_refusals_apart).prog w K mg base (He.ga K "Matter") "check" 1 2 G_none2 := fInh_ok (c.fact 183 (f := fInh "Matter" "Motion" "check") rfl) (ok_Motion_check B  F_Motion_check) b_Motion_check
  have D_Rest_check : MethOk (PySem.Challenge.rw_moot_k14_refusals_apart).prog w K mg base (He.ga K "Rest") "check" 1 2 G_none2 := fInh_ok (c.fact 184 (f := fInh "Rest" "Motion" "check") rfl) (ok_Motion_check B  F_Motion_check) b_Motion_check
  have D_Point_check : MethOk (PySem.Challenge.rw_moot_k14_refusals_apart).prog w K mg base (He.ga K "Point") "check" 1 2 G_none2 := fInh_ok (c.fact 185 (f := fInh "Point" "Motion" "check") rfl) (ok_Motion_check B  F_Motion_check) b_Motion_check
  have D_Motion_keep : MethOk (PySem.Challenge.rw_moot_k14_refusals_apart).prog w K mg base (He.ga K "Motion") "keep" 1 2 G_none2 := fMth_ok (c.fact 186 (f := fMth "Motion" "keep") rfl) (ok_Motion_keep B  F_Motion_keep) b_Motion_keep
  have D_Matter_keep : MethOk (PySem.Challenge.rw_moot_k14_refusals_apart).prog w K mg base (He.ga K "Matter") "keep" 1 2 G_none2 := fInh_ok (c.fact 187 (f := fInh "Matter" "Motion" "keep") rfl) (ok_Motion_keep B  F_Motion_keep) b_Motion_keep
  have D_Point_keep : MethOk (PySem.Challenge.rw_moot_k14_refusals_apart).prog w K mg base (He.ga K "Point") "keep" 1 2 G_none2 := fInh_ok (c.fact 188 (f := fInh "Point" "Motion" "keep") rfl) (ok_Motion_keep B  F_Motion_keep) b_Motion_keep
  have xfNotLater := (xf_NotLater base).1
  have D_Change_check : MethOk (PySem.Challenge.rw_moot_k14_refusals_apart).prog w K mg base (He.ga K "Change") "check" 4 2 (G_chk (K := K) 1) := fMth_ok (c.fact 189 (f := fMth "Change" "check") rfl) (ok_Change_check B at_Change_edit at_Matter_text D_fits D_need_matter x0_NoFit F_Change_check) b_Change_check
  have D_PutOff_check : MethOk (PySem.Challenge.rw_moot_k14_refusals_apart).prog w K mg base (He.ga K "PutOff") "check" 4 2 (G_chk (K := K) 3) := fMth_ok (c.fact 190 (f := fMth "PutOff" "check") rfl) (ok_PutOff_check B at_PutOff_sitting cha D_need_matter xfNotLater F_PutOff_check) b_PutOff_check
  have D_Close_check : MethOk (PySem.Challenge.rw_moot_k14_refusals_apart).prog w K mg base (He.ga K "Close") "check" 4 2 (G_chk (K := K) 4) := fMth_ok (c.fact 191 (f := fMth "Close" "check") rfl) (ok_Close_check B D_need_matter F_Close_check) b_Close_check
  have D_Lay_check : MethOk (PySem.Challenge.rw_moot_k14_refusals_apart).prog w K mg base (He.ga K "Lay") "check" 4 2 (G_chk (K := K) 5) := fMth_ok (c.fact 192 (f := fMth "Lay" "check") rfl) (ok_Lay_check B D_need_matter F_Lay_check) b_Lay_check
  have D_Mend_check : MethOk (PySem.Challenge.rw_moot_k14_refusals_apart).prog w K mg base (He.ga K "Mend") "check" 4 2 (G_chk (K := K) 2) := fMth_ok (c.fact 193 (f := fMth "Mend" "check") rfl) (ok_Mend_check B at_Mend_edit at_Change_edit D_fits D_need_matter D_is_mendable D_words_of x0_NoFit x0_NoChange D_Chamber_top F_Mend_check) b_Mend_check
  have D_Chamber_close : MethOk (PySem.Challenge.rw_moot_k14_refusals_apart).prog w K mg base (He.ga K "Chamber") "close" 1 1 (G_Chamber_close (K := K)) := fMth_ok (c.fact 194 (f := fMth "Chamber" "close") rfl) (ok_Chamber_close B cha F_Chamber_close) b_Chamber_close
  have D_Chamber_next_sitting : MethOk (PySem.Challenge.rw_moot_k14_refusals_apart).prog w K mg base (He.ga K "Chamber") "next_sitting" 1 1 (G_Chamber_next_sitting (K := K)) := fMth_ok (c.fact 195 (f := fMth "Chamber" "next_sitting") rfl) (ok_Chamber_next_sitting B cha F_Chamber_next_sitting) b_Chamber_next_sitting
  have D_Chamber_note : MethOk (PySem.Challenge.rw_moot_k14_refusals_apart).prog w K mg base (He.ga K "Chamber") "note" 4 2 (G_Chamber_note (K := K)) := fMth_ok (c.fact 196 (f := fMth "Chamber" "note") rfl) (ok_Chamber_note B cha D_show_deed F_Chamber_note) b_Chamber_note
  have D_Chamber_ended : MethOk (PySem.Challenge.rw_moot_k14_refusals_apart).prog w K mg base (He.ga K "Chamber") "ended" 1 2 (G_Chamber_ended (K := K)) := fMth_ok (c.fact 197 (f := fMth "Chamber" "ended") rfl) (ok_Chamber_ended B cha F_Chamber_ended) b_Chamber_ended
  have D_Chamber_set_aside : MethOk (PySem.Challenge.rw_moot_k14_refusals_apart).prog w K mg base (He.ga K "Chamber") "set_aside" 1 2 (G_Chamber_set_aside (K := K)) := fMth_ok (c.fact 198 (f := fMth "Chamber" "set_aside") rfl) (ok_Chamber_set_aside B cha F_Chamber_set_aside) b_Chamber_set_aside
  have D_Matter_lay : MethOk (PySem.Challenge.rw_moot_k14_refusals_apart).prog w K mg base (He.ga K "Matter") "lay" 3 2 (G_Matter_lay (ka K).M) := fMth_ok (c.fact 199 (f := fMth "Matter" "lay") rfl) (ok_Matter_lay B at_Matter_text at_Matter_changes D_laid F_Matter_lay) b_Matter_lay
  have D_Change_mend : MethOk (PySem.Challenge.rw_moot_k14_refusals_apart).prog w K mg base (He.ga K "Change") "mend" 3 2 (G_Change_mend (ka K).C) := fMth_ok (c.fact 200 (f := fMth "Change" "mend") rfl) (ok_Change_mend B at_Change_edit D_laid D_words_of D_clause_of F_Change_mend) b_Change_mend
  have D_Change_keep : MethOk (PySem.Challenge.rw_moot_k14_refusals_apart).prog w K mg base (He.ga K "Change") "keep" 4 2 (G_kp (K := K) 1) := fMth_ok (c.fact 201 (f := fMth "Change" "keep") rfl) (ok_Change_keep B at_Change_edit D_Chamber_matter D_Matter_lay F_Change_keep) b_Change_keep
  have D_Mend_keep : MethOk (PySem.Challenge.rw_moot_k14_refusals_apart).prog w K mg base (He.ga K "Mend") "keep" 4 2 (G_kp (K := K) 2) := fMth_ok (c.fact 202 (f := fMth "Mend" "keep") rfl) (ok_Mend_keep B at_Mend_edit D_Chamber_top D_Change_mend F_Mend_keep) b_Mend_keep
  have D_PutOff_keep : MethOk (PySem.Challenge.rw_moot_k14_refusals_apart).prog w K mg base (He.ga K "PutOff") "keep" 2 2 (G_kp (K := K) 3) := fMth_ok (c.fact 203 (f := fMth "PutOff" "keep") rfl) (ok_PutOff_keep B at_PutOff_sitting D_Chamber_set_aside F_PutOff_keep) b_PutOff_keep
  have D_Close_keep : MethOk (PySem.Challenge.rw_moot_k14_refusals_apart).prog w K mg base (He.ga K "Close") "keep" 2 2 (G_kp (K := K) 4) := fMth_ok (c.fact 204 (f := fMth "Close" "keep") rfl) (ok_Close_keep B D_Chamber_close F_Close_keep) b_Close_keep
  have D_Lay_keep : MethOk (PySem.Challenge.rw_moot_k14_refusals_apart).prog w K mg base (He.ga K "Lay") "keep" 2 2 (G_kp (K := K) 5) := fMth_ok (c.fact 205 (f := fMth "Lay" "keep") rfl) (ok_Lay_keep B cha D_Chamber_set_aside F_Lay_keep) b_Lay_keep
  have D_Rest_keep : MethOk (PySem.Challenge.rw_moot_k14_refusals_apart).prog w K mg base (He.ga K "Rest") "keep" 2 2 (G_kp (K := K) 6) := fMth_ok (c.fact 206 (f := fMth "Rest" "keep") rfl) (ok_Rest_keep B D_Chamber_next_sitting F_Rest_keep) b_Rest_keep
  have act : Acts (PySem.Challenge.rw_moot_k14_refusals_apart).prog w K mg base := acts_of D_Matter_check D_Change_check D_Mend_check D_PutOff_check D_Close_check D_Lay_check D_Rest_check D_Point_check D_Matter_keep D_Change_keep D_Mend_keep D_PutOff_keep D_Close_keep D_Lay_keep D_Rest_keep D_Point_keep
  have xfBarred := (xf_Barred base).1
  have xfNotYet := (xf_NotYet base).1
  have D_Chamber_move : MethOk (PySem.Challenge.rw_moot_k14_refusals_apart).prog w K mg base (He.ga K "Chamber") "move" 5 2 (G_Chamber_move (K := K)) := fMth_ok (c.fact 207 (f := fMth "Chamber" "move") rfl) (ok_Chamber_move B cha mot act D_motion_of xfBarred D_Chamber_bar_now D_Chamber_note F_Chamber_move) b_Chamber_move
  have D_Chamber_drop : MethOk (PySem.Challenge.rw_moot_k14_refusals_apart).prog w K mg base (He.ga K "Chamber") "drop" 5 1 (G_Chamber_drop (K := K)) := fMth_ok (c.fact 208 (f := fMth "Chamber" "drop") rfl) (ok_Chamber_drop B cha x0_Nothing D_Chamber_ended D_Chamber_note F_Chamber_drop) b_Chamber_drop
  have D_Chamber_vote : MethOk (PySem.Challenge.rw_moot_k14_refusals_apart).prog w K mg base (He.ga K "Chamber") "vote" 5 3 (G_Chamber_vote (K := K)) := fMth_ok (c.fact 209 (f := fMth "Chamber" "vote") rfl) (ok_Chamber_vote B cha mot act x0_Nothing x0_TooMany D_is_kept D_Chamber_top D_Chamber_ended D_Chamber_note F_Chamber_vote) b_Chamber_vote
  have D_Chamber_take : MethOk (PySem.Challenge.rw_moot_k14_refusals_apart).prog w K mg base (He.ga K "Chamber") "take" 5 2 (G_Chamber_take (K := K)) := fMth_ok (c.fact 210 (f := fMth "Chamber" "take") rfl) (ok_Chamber_take B cha xfBarred x0_NoAside xfNotYet D_Chamber_bar_now D_Chamber_note F_Chamber_take) b_Chamber_take
  have D_Chamber_motion : MethOk (PySem.Challenge.rw_moot_k14_refusals_apart).prog w K mg base (He.ga K "Chamber") "motion" 2 2 (G_Chamber_motion (K := K)) := fMth_ok (c.fact 211 (f := fMth "Chamber" "motion") rfl) (ok_Chamber_motion B cha mot x0_NoNumber F_Chamber_motion) b_Chamber_motion
  have D_Chamber_state : MethOk (PySem.Challenge.rw_moot_k14_refusals_apart).prog w K mg base (He.ga K "Chamber") "state" 1 1 (G_Chamber_state (K := K)) := fMth_ok (c.fact 212 (f := fMth "Chamber" "state") rfl) (ok_Chamber_state B cha F_Chamber_state) b_Chamber_state
  have D_Chamber_init : MkOk (PySem.Challenge.rw_moot_k14_refusals_apart).prog w K mg base "Chamber" (He.ga K "Chamber") 1 2 (G_Chamber_init (K := K)) := fMk_ok X G (c.fact 213 (f := fMk "Chamber") rfl) (ok_Chamber_init B cha F_Chamber_init) b_Chamber_init
  have D_Chamber_matter_of : MethOk (PySem.Challenge.rw_moot_k14_refusals_apart).prog w K mg base (He.ga K "Chamber") "matter_of" 2 2 (G_Chamber_matter_of (K := K)) := fMth_ok (c.fact 214 (f := fMth "Chamber" "matter_of") rfl) (ok_Chamber_matter_of B cha srt x0_NoNumber F_Chamber_matter_of) b_Chamber_matter_of
  have D_Chamber_kept_changes : MethOk (PySem.Challenge.rw_moot_k14_refusals_apart).prog w K mg base (He.ga K "Chamber") "kept_changes" 3 2 (G_mlist (K := K) chD) := fMth_ok (c.fact 215 (f := fMth "Chamber" "kept_changes") rfl) (ok_Chamber_kept_changes B at_Matter_changes D_Chamber_matter_of F_Chamber_kept_changes) b_Chamber_kept_changes
  have D_Chamber_first_text : MethOk (PySem.Challenge.rw_moot_k14_refusals_apart).prog w K mg base (He.ga K "Chamber") "first_text" 3 2 (G_mlist (K := K) fiD) := fMth_ok (c.fact 216 (f := fMth "Chamber" "first_text") rfl) (ok_Chamber_first_text B at_Matter_first D_Chamber_matter_of F_Chamber_first_text) b_Chamber_first_text
  have D_Chamber_minutes : MethOk (PySem.Challenge.rw_moot_k14_refusals_apart).prog w K mg base (He.ga K "Chamber") "minutes" 1 1 (G_Chamber_minutes (K := K)) := fMth_ok (c.fact 217 (f := fMth "Chamber" "minutes") rfl) (ok_Chamber_minutes B cha F_Chamber_minutes) b_Chamber_minutes
  have xcBarred := (xf_Barred base).2
  have xcNotLater := (xf_NotLater base).2
  have xcNotYet := (xf_NotYet base).2
  have D_wcell_at : DefOk (PySem.Challenge.rw_moot_k14_refusals_apart).prog w K mg base "_law_cell_at" 1 2 G_wcell_at := dk_of (ok_wcell_at B  F_wcell_at) g_wcell_at F_wcell_at.kp b_wcell_at
  have D_wword : DefOk (PySem.Challenge.rw_moot_k14_refusals_apart).prog w K mg base "_law_word" 1 1 G_wword := dk_of (ok_wword B  F_wword) g_wword F_wword.kp b_wword
  have D_wclause : DefOk (PySem.Challenge.rw_moot_k14_refusals_apart).prog w K mg base "_law_clause" 2 1 G_wclause := dk_of (ok_wclause B D_wword F_wclause) g_wclause F_wclause.kp b_wclause
  have D_wdo : DefOk (PySem.Challenge.rw_moot_k14_refusals_apart).prog w K mg base "_law_do" 6 2 G_wdo := dk_of (ok_wdo B D_Chamber_vote D_Chamber_drop D_Chamber_take D_Chamber_motion D_Chamber_kept_changes D_Chamber_first_text D_Chamber_move F_wdo) g_wdo F_wdo.kp b_wdo
  have D_wcases : DefOk (PySem.Challenge.rw_moot_k14_refusals_apart).prog w K mg base "_law_cases" 3 1 G_wcases := dk_of (ok_wcases B D_wcell_at D_wclause D_wword F_wcases) g_wcases F_wcases.kp b_wcases
  have D_wtold : DefOk (PySem.Challenge.rw_moot_k14_refusals_apart).prog w K mg base "_law_told" 1 1 G_wtold := dk_of (ok_wtold B kits_all xfBarred xcBarred xfNotLater xcNotLater xfNotYet xcNotYet F_wtold) g_wtold F_wtold.kp b_wtold
  have D_wmany : DefOk (PySem.Challenge.rw_moot_k14_refusals_apart).prog w K mg base "_law_many" 1 1 G_wmany := dk_of (ok_wmany B kits_all F_wmany) g_wmany F_wmany.kp b_wmany
  exact ok_law B rfb_ChamberError em_NoNumber_ChamberError kits_all kitv_all D_wcell_at D_wcases D_Chamber_init D_wdo D_Chamber_state D_Chamber_minutes D_wtold D_wmany F_law
end Law
open PySem PySem.W PySem.Calls PyProof.Rows
set_option maxHeartbeats 0 in
theorem PySem.Challenge.cw_moot_k14_refusals_apart_holds : PySem.Challenge.rw_moot_k14_refusals_apart.Holds := by
  w_on; o_law
  refine HandSHeadRun.head_any (r := OpenLaw.row PySem.Challenge.rw_moot_k14_refusals_apart) (q := view (OpenLaw.row PySem.Challenge.rw_moot_k14_refusals_apart).prog [52]) (H := Law.hkL) (ob := Law.obL) (M := Law.stepsL) (loose := Law.looseL) (d := HandSHeadRun.topDef (OpenLaw.row PySem.Challenge.rw_moot_k14_refusals_apart).prog 52) (kwd := []) Law.ob_eqL
    (by kernel_rfl) (fun s => by kernel_rfl) Law.runL (by kernel_rfl) (by kernel_rfl) (by kernel_rfl) (by rfl) (by first | assumption | decide +kernel) (by decide +kernel) ⟨rfl, rfl, rfl, rfl, rfl, by decide +kernel⟩ ?hw ?hc
  case hw => w_witness2
  case hc => exact Mo.walk_law (l := PySem.Challenge.rw_moot_k14_refusals_apart) (n := 63) (k := 9) (x := "_law_script") (G := Law.G_law) rfl (by decide) (by kernel_rfl) ⟨rfl, by decide, by decide⟩ (by kernel_rfl) Law.start_law Law.facts
#print axioms PySem.Challenge.cw_moot_k14_refusals_apart_holds
